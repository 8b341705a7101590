import PyProof.Rows.All
import Wide.All
import OpenK.AllK
import Wide.FinOn
import HandS.ForMost
import HandS.ForExc
import HandS.Deep
import HandS.TupAny
import HandS.Conv
import HandS.SetKeys
import HandS.Defaults
import HandS.ExcInit
import HandS.IsInst
import HandS.Strs
import KE.GoesEnum
import KE.GoesMore
import HandS.Small
import HandS.ExcField
import HandS.ExcOwn
import HandS.Head0
import HandS.Head1
import HandS.Head2
import HandS.HeadHook1
import HandS.HeadHook2
import HandS.Style
import PyProof.SeqIndex
import HandS.TryMany
import HandS.ExcIs
import HandS.Iter
import HandS.TupMul
import KE.KStateDown
import HandS.HeadEnd
import HandS.HeadHook3
import HandS.HeadHook4
import PySem.Challenge.RW_wreckfloor_k74_merge_for
set_option Elab.async false
set_option linter.all false
set_option maxRecDepth 100000
set_option maxHeartbeats 0
/-! tuples that are known to the object (so that their methods may be called): the rules that lay them -/
namespace DD
open PySem PySem.Spec PyProof.Rows L2
section
variable {X : Cx} {pos : Pos} {es : List Expr}
/-- a known tuple is laid -/
theorem inv_tupZ {pins : List (Addr × Obj)} {σ : L2.St} {H : Hp} {s : Shared} {g : Heap} {ws : List Value} {ys : List V} (J : Inv X pins σ H { s with heap := g }) (rv : Vals ys ws) (hz : ys.length ≤ sizeLine) :
    Inv X pins σ (upd H g.objs.size (.frz { cls := .type "tuple", data := .seq ws.toArray } (.tup ys))) { s with heap := g.push { cls := .type "tuple", data := .seq ws.toArray } } :=
  J.laid (t' := s.toks) (o := .frz { cls := .type "tuple", data := .seq ws.toArray } (.tup ys)) (fun c ob hc => Heap.get?_push_of_some _ hc) (Nat.le_refl _)
    ⟨Heap.get?_push_size _ rfl, hz, ws, rv, IsTup.new _ _⟩
def tTupZ (t : TA) : TE := fun σ H Q => t σ H fun ys G => ys.length ≤ sizeLine ∧ ∀ p o, G p = none → o.dict = none → Q (.ref p) (upd G p (.frz o (.tup ys)))
theorem pe_tupZ {kk : Nat} {t : TA} (ha : PA X es t) : PE X (.Tuple es kk pos) (tTupZ t) := by
  refine ⟨fun pins s σ H Q I h => wpAny_Tuple_spliced (thn (ha.run pos pins s σ H _ I h) fun ws s1 hh => ?_)⟩
  obtain ⟨ys, G, J, rv, hz, q⟩ := hh
  exact ⟨by rw [← rv.length]; exact hz, .ref s1.heap.objs.size, _, inv_tupZ (s := s1) (g := s1.heap) J rv hz, rfl, q _ _ (J.hok.fresh (Nat.le_refl _)) rfl⟩
/-- tuple(xs) -/
def rTupleZ (K : PySem.W.Frag) : List V → Hp → VK → Prop := fun xs H Q => ∃ p ys, xs = [.ref p] ∧ ((SqL K H p ys ∧ ∀ l o, H l = none → o.dict = none → Q (.ref l) (upd H l (.frz o (.tup ys)))) ∨ (SqT K H p ys ∧ Q (.ref p) H))
theorem call_tupleZ : CallR X (.type "tuple") (rTupleZ X.K) := by
  intro pins s σ H xs us Q I r h
  obtain ⟨p, ys, rfl, h⟩ := h
  obtain ⟨u, rfl, hu⟩ := vals1 r
  cases hu
  rcases h with ⟨hl, q⟩ | ⟨ht, q⟩
  · obtain ⟨ws, rv, pl, hz⟩ := I.list hl
    refine call_tuple_list pl.isList (fun g kp => ?_) (by have := rv.length; simp only [List.size_toArray]; omega)
    have J : Inv X pins σ H { s with heap := g } := I.kept (t' := s.toks) kp
    exact ⟨.ref g.objs.size, _, inv_tupZ (s := s) J rv hz, rfl, q _ _ (J.hok.fresh (Nat.le_refl _)) rfl⟩
  · obtain ⟨ws, rv, pt, hz⟩ := I.tuple ht
    exact call_tuple_same pt ⟨.ref p, H, I, rfl, q⟩
/-- t[lo:hi] -/
def rSlZ (K : PySem.W.Frag) : V → Option Int → Option Int → Hp → VK → Prop := fun x lo hi H Q => ∃ a xs, x = .ref a ∧ SqT K H a xs ∧
  (HT.sIx xs.length 0 lo = 0 ∧ HT.sIx xs.length xs.length hi = xs.length → Q (.ref a) H) ∧ ∀ p o, H p = none → o.dict = none → Q (.ref p) (upd H p (.frz o (.tup (cutV xs lo hi))))
theorem sl_tupZ : SlR X (rSlZ X.K) := by
  intro pins s σ H x v vl vu lo hi sl Q I rx hs pl pu h
  obtain ⟨a, xs, rfl, hq, q1, q2⟩ := h
  by_cases hw : HT.sIx xs.length 0 lo = 0 ∧ HT.sIx xs.length xs.length hi = xs.length
  · exact sl_tupA pins s σ H _ v vl vu lo hi sl Q I rx hs pl pu ⟨a, xs, rfl, hq, q1, fun n => (n hw).elim⟩
  · cases rx
    obtain ⟨ws, rv, ht, hz⟩ := I.tuple hq
    have hn : ws.toArray.size = xs.length := by have := rv.length; simp only [List.size_toArray]; omega
    refine ⟨"tuple", _, PyProof.Rows.slot_tuple_getitem.lookup, ht.typeIs, HT.getItem_tuple_cut ht hs pl pu (by rw [hn]; exact hw) ?_ (by rw [hn]; exact hz)⟩
    rw [hn]
    have hcut : Vals (cutV xs lo hi) ((ws.drop (HT.sIx xs.length 0 lo)).take (HT.sIx xs.length xs.length hi - HT.sIx xs.length 0 lo)) := (rv.drop _).take _
    exact ⟨.ref s.heap.objs.size, _, inv_tupZ (s := s) (g := s.heap) I hcut (Nat.le_trans (cutV_length xs lo hi) hz), rfl, q2 _ _ (I.hok.fresh (Nat.le_refl _)) rfl⟩
/-- t + u -/
def rCatZ (K : PySem.W.Frag) : R2 := fun x y H Q => ∃ a b xs ys, x = .ref a ∧ y = .ref b ∧ SqT K H a xs ∧ SqT K H b ys ∧ xs.length + ys.length ≤ sizeLine ∧
  (xs = [] → Q (.ref b) H) ∧ (ys = [] → Q (.ref a) H) ∧ ∀ p o, H p = none → o.dict = none → Q (.ref p) (upd H p (.frz o (.tup (xs ++ ys))))
theorem op_catZ : OpR X (binaryOp .Add) (rCatZ X.K) := by
  intro pins s σ H x y v u Q I rx ry h
  obtain ⟨a, b, xs, ys, rfl, rfl, ha, hb, hz, q0, q1, q2⟩ := h
  by_cases hx : xs = []
  · exact op_catA pins s σ H _ _ v u Q I rx ry ⟨a, b, xs, ys, rfl, rfl, ha, hb, hz, q0, fun n => (n hx).elim, fun n => (n hx).elim⟩
  · by_cases hy : ys = []
    · exact op_catA pins s σ H _ _ v u Q I rx ry ⟨a, b, xs, ys, rfl, rfl, ha, hb, hz, q0, fun _ => q1, fun _ n => (n hy).elim⟩
    · cases rx
      cases ry
      obtain ⟨ws, r1, p1, _⟩ := I.tuple ha
      obtain ⟨zs, r2, p2, _⟩ := I.tuple hb
      refine HT.cat_tup p1 p2 (fun z => hx (r1.nil_iff.mp z)) (fun z => (hy (r2.nil_iff.mp z)).elim) (fun z => ?_) (by rw [← r1.length, ← r2.length]; exact hz)
      have := inv_tupZ (s := s) (g := s.heap) I (r1.append r2) (by rw [List.length_append]; exact hz)
      first
        | exact ⟨.ref s.heap.objs.size, _, this, rfl, q2 _ _ (I.hok.fresh (Nat.le_refl _)) rfl⟩
        | (simp only [List.append_toArray] at *
           exact ⟨.ref s.heap.objs.size, _, this, rfl, q2 _ _ (I.hok.fresh (Nat.le_refl _)) rfl⟩)
end
end DD
/-! data without a heap: values D, their standing in a heap, a monad of results, the judgements of expressions and statements by data -/
namespace DD
open PySem PySem.Spec PyProof.Rows L2

/-- a value as data -/
inductive D where
  | non
  | bl (b : Bool)
  | int (i : Int)
  | str (x : Str)
  | opq (v : V)
  | tup (l : List D)
  | lst (l : List D)
  | dct (l : List (Key × D))
  | st (l : List Key)

structure Gx where
  P : Program
  w : World
  K : PySem.W.Frag
  mg : Str → Option Value
abbrev gx (X : Cx) : Gx := ⟨X.prog, X.w, X.K, X.mg⟩

abbrev Set' := Addr → Prop
/-- a tuple, known to the object or not -/
def isT : HO → Bool
  | .tup _ => true
  | .frz _ (.tup _) => true
  | _ => false
/-- from H, where W may change, to H', where W' may change -/
def Mv (W : Set') (H : Hp) (W' : Set') (H' : Hp) : Prop :=
  ∀ a o, H a = some o → (¬ W a → H' a = some o ∧ ¬ W' a) ∧ (isT o = true → H' a = some o)
theorem Mv.refl {W : Set'} {H : Hp} : Mv W H W H := fun a o h => ⟨fun n => ⟨h, n⟩, fun _ => h⟩
theorem Mv.trans {W W1 W2 : Set'} {H H1 H2 : Hp} (p : Mv W H W1 H1) (q : Mv W1 H1 W2 H2) : Mv W H W2 H2 := fun a o h =>
  ⟨fun n => let ⟨h1, n1⟩ := (p a o h).1 n; (q a o h1).1 n1, fun e => (q a o ((p a o h).2 e)).2 e⟩
theorem Mv.sub {W W' : Set'} {H : Hp} (s : ∀ a, W' a → W a) : Mv W H W' H := fun a o h => ⟨fun n => ⟨h, fun z => n (s a z)⟩, fun _ => h⟩
theorem Mv.thin {W W1 W2 : Set'} {H H1 : Hp} (p : Mv W H W1 H1) (s : ∀ a, W2 a → W1 a) : Mv W H W2 H1 := p.trans (Mv.sub s)
/-- a new object at a free place -/
theorem Mv.new {W : Set'} {H : Hp} {p : Addr} {o : HO} (n : H p = none) : Mv W H (fun a => W a ∨ a = p) (upd H p o) := fun a u h => by
  have ne : a ≠ p := fun z => by rw [z, n] at h; cases h
  exact ⟨fun nw => ⟨by rw [upd_ne ne]; exact h, fun z => z.elim nw ne⟩, fun _ => by rw [upd_ne ne, h]⟩
/-- a change within W -/
theorem Mv.wr {W : Set'} {H : Hp} {p : Addr} {o u : HO} (e : H p = some u) (nt : isT u = false) (hw : W p) : Mv W H W (upd H p o) := fun a v h => by
  by_cases ne : a = p
  · subst ne
    rw [e] at h
    cases h
    exact ⟨fun nw => (nw hw).elim, fun z => by rw [nt] at z; cases z⟩
  · exact ⟨fun nw => ⟨by rw [upd_ne ne]; exact h, nw⟩, fun _ => by rw [upd_ne ne, h]⟩

def KTup (K : PySem.W.Frag) (a : Addr) (xs : List V) : Prop :=
  ∃ (o : Obj) (its : Array Value) (n : Nat), K.lookup a = some o ∧ o.cls = .type "tuple" ∧ o.dict = none ∧ o.data = .seq its n ∧ its.size ≤ sizeLine ∧ Vals xs its.toList
def TupAt (K : PySem.W.Frag) (H : Hp) (a : Addr) (xs : List V) : Prop := (∃ o, H a = some (.frz o (.tup xs)) ∧ o.dict = none) ∨ KTup K a xs
def LstAt (W : Set') (H : Hp) (a : Addr) (xs : List V) : Prop := H a = some (.lst xs) ∧ ¬ W a
theorem TupAt.seq {K : PySem.W.Frag} {H : Hp} {a : Addr} {xs : List V} (h : TupAt K H a xs) : SqT K H a xs :=
  h.elim (fun ⟨o, h, _⟩ => .inl (.inr ⟨o, h⟩)) fun ⟨o, its, n, h1, h2, _, h4, h5, h6⟩ => .inr ⟨o, its, n, h1, h2, h4, h5, h6⟩
theorem TupAt.at {K : PySem.W.Frag} {H : Hp} {a : Addr} {xs : List V} {o : Obj} (d : o.dict = none) : TupAt K (upd H a (.frz o (.tup xs))) a xs := .inl ⟨o, upd_same, d⟩
theorem LstAt.seq {K : PySem.W.Frag} {W : Set'} {H : Hp} {a : Addr} {xs : List V} (h : LstAt W H a xs) : SqL K H a xs := .inl (.inl h.1)
section
variable {K : PySem.W.Frag} {W W' : Set'} {H H' : Hp}
theorem TupAt.mv (m : Mv W H W' H') {a : Addr} {xs : List V} (h : TupAt K H a xs) : TupAt K H' a xs := h.elim (fun ⟨o, h, d⟩ => .inl ⟨o, (m a _ h).2 rfl, d⟩) .inr
theorem LstAt.mv (m : Mv W H W' H') {a : Addr} {xs : List V} (h : LstAt W H a xs) : LstAt W' H' a xs := (m a _ h.1).1 h.2
end

/-- a text of true signs, of a bounded length -/
def okS (x : Str) : Prop := PyData.strOk x = true ∧ x.length ≤ 4096
instance (x : Str) : Decidable (okS x) := by unfold okS; infer_instance

mutual
/-- d stands at v, clear of W -/
def Rep (K : PySem.W.Frag) (W : Set') (H : Hp) : D → V → Prop
  | .non, v => v = .non
  | .bl b, v => v = .bl b
  | .int i, v => v = .int i
  | .str x, v => v = .str x ∧ okS x
  | .opq w, v => v = w
  | .tup l, v => ∃ a xs, v = .ref a ∧ TupAt K H a xs ∧ Reps K W H l xs
  | .lst l, v => ∃ a xs, v = .ref a ∧ LstAt W H a xs ∧ Reps K W H l xs
  | .dct l, v => ∃ a kvs, v = .ref a ∧ (H a = some (.dK kvs) ∧ ¬ W a) ∧ RepKs K W H l kvs
  | .st _, _ => False
def Reps (K : PySem.W.Frag) (W : Set') (H : Hp) : List D → List V → Prop
  | [], vs => vs = []
  | d :: ds, vs => ∃ v r, vs = v :: r ∧ Rep K W H d v ∧ Reps K W H ds r
def RepKs (K : PySem.W.Frag) (W : Set') (H : Hp) : List (Key × D) → List (Key × V) → Prop
  | [], vs => vs = []
  | (k, d) :: ds, vs => ∃ v r, vs = (k, v) :: r ∧ Rep K W H d v ∧ RepKs K W H ds r
end

mutual
theorem Rep.mv {K : PySem.W.Frag} {W W' : Set'} {H H' : Hp} (m : Mv W H W' H') : ∀ {d : D} {v : V}, Rep K W H d v → Rep K W' H' d v
  | .non, _, h => by simpa only [Rep] using h
  | .bl _, _, h => by simpa only [Rep] using h
  | .int _, _, h => by simpa only [Rep] using h
  | .str _, _, h => by simpa only [Rep] using h
  | .opq _, _, h => by simpa only [Rep] using h
  | .tup l, v, h => by
    simp only [Rep] at h ⊢
    obtain ⟨a, xs, e, t, r⟩ := h
    exact ⟨a, xs, e, t.mv m, Reps.mv m r⟩
  | .lst l, v, h => by
    simp only [Rep] at h ⊢
    obtain ⟨a, xs, e, t, r⟩ := h
    exact ⟨a, xs, e, t.mv m, Reps.mv m r⟩
  | .dct l, v, h => by
    simp only [Rep] at h ⊢
    obtain ⟨a, xs, e, ⟨t, n⟩, r⟩ := h
    exact ⟨a, xs, e, (m a _ t).1 n, RepKs.mv m r⟩
  | .st _, _, h => by simp only [Rep] at h
theorem Reps.mv {K : PySem.W.Frag} {W W' : Set'} {H H' : Hp} (m : Mv W H W' H') : ∀ {d : List D} {v : List V}, Reps K W H d v → Reps K W' H' d v
  | [], _, h => by simpa only [Reps] using h
  | d :: ds, vs, h => by
    simp only [Reps] at h ⊢
    obtain ⟨v, r, e, h1, h2⟩ := h
    exact ⟨v, r, e, Rep.mv m h1, Reps.mv m h2⟩
theorem RepKs.mv {K : PySem.W.Frag} {W W' : Set'} {H H' : Hp} (m : Mv W H W' H') : ∀ {d : List (Key × D)} {v : List (Key × V)}, RepKs K W H d v → RepKs K W' H' d v
  | [], _, h => by simpa only [RepKs] using h
  | (k, d) :: ds, vs, h => by
    simp only [RepKs] at h ⊢
    obtain ⟨v, r, e, h1, h2⟩ := h
    exact ⟨v, r, e, Rep.mv m h1, RepKs.mv m h2⟩
end

mutual
/-- no list, no dict within -/
def D.hard : D → Bool
  | .tup l => hards l
  | .lst _ => false
  | .dct _ => false
  | .st _ => false
  | .non => true
  | .bl _ => true
  | .int _ => true
  | .str _ => true
  | .opq _ => true
def hards : List D → Bool
  | [] => true
  | d :: ds => d.hard && hards ds
end
/-- what stands within the object is hard -/
def D.hardIn : D → Bool
  | .lst l => hards l
  | .tup l => hards l
  | .dct l => hards (l.map (·.2))
  | _ => true
mutual
theorem Rep.hard {K : PySem.W.Frag} {W W' : Set'} {H : Hp} : ∀ {d : D} {v : V}, d.hard = true → Rep K W H d v → Rep K W' H d v
  | .non, _, _, h => by simpa only [Rep] using h
  | .bl _, _, _, h => by simpa only [Rep] using h
  | .int _, _, _, h => by simpa only [Rep] using h
  | .str _, _, _, h => by simpa only [Rep] using h
  | .opq _, _, _, h => by simpa only [Rep] using h
  | .tup l, v, hh, h => by
    simp only [Rep] at h ⊢
    simp only [D.hard] at hh
    obtain ⟨a, xs, e, t, r⟩ := h
    exact ⟨a, xs, e, t, Reps.hard hh r⟩
  | .lst l, v, hh, h => by simp [D.hard] at hh
  | .dct l, v, hh, h => by simp [D.hard] at hh
  | .st l, v, hh, h => by simp [D.hard] at hh
theorem Reps.hard {K : PySem.W.Frag} {W W' : Set'} {H : Hp} : ∀ {d : List D} {v : List V}, hards d = true → Reps K W H d v → Reps K W' H d v
  | [], _, _, h => by simpa only [Reps] using h
  | d :: ds, vs, hh, h => by
    simp only [Reps] at h ⊢
    simp only [hards, Bool.and_eq_true] at hh
    obtain ⟨v, r, e, h1, h2⟩ := h
    exact ⟨v, r, e, Rep.hard hh.1 h1, Reps.hard hh.2 h2⟩
end
theorem RepKs.hard {K : PySem.W.Frag} {W W' : Set'} {H : Hp} : ∀ {d : List (Key × D)} {v : List (Key × V)}, hards (d.map (·.2)) = true → RepKs K W H d v → RepKs K W' H d v
  | [], _, _, h => by simpa only [RepKs] using h
  | (k, d) :: ds, vs, hh, h => by
    simp only [RepKs] at h ⊢
    simp only [List.map_cons, hards, Bool.and_eq_true] at hh
    obtain ⟨v, r, e, h1, h2⟩ := h
    exact ⟨v, r, e, Rep.hard hh.1 h1, RepKs.hard hh.2 h2⟩

section
variable {K : PySem.W.Frag} {W : Set'} {H : Hp}
theorem Reps.length : ∀ {ds : List D} {vs : List V}, Reps K W H ds vs → vs.length = ds.length
  | [], vs, h => by simp only [Reps] at h; subst h; rfl
  | d :: ds, vs, h => by
    simp only [Reps] at h
    obtain ⟨v, r, e, _, h2⟩ := h
    subst e
    simp [Reps.length h2]
theorem Reps.get : ∀ {ds : List D} {vs : List V} {i : Nat} {d : D}, Reps K W H ds vs → ds[i]? = some d → ∃ v, vs[i]? = some v ∧ Rep K W H d v
  | [], vs, i, d, h, e => by simp at e
  | d :: ds, vs, 0, x, h, e => by
    simp only [Reps] at h
    obtain ⟨v, r, rfl, h1, h2⟩ := h
    simp at e
    subst e
    exact ⟨v, rfl, h1⟩
  | d :: ds, vs, i + 1, x, h, e => by
    simp only [Reps] at h
    obtain ⟨v, r, rfl, h1, h2⟩ := h
    simp at e
    obtain ⟨u, eu, hu⟩ := Reps.get h2 e
    exact ⟨u, by simpa using eu, hu⟩
theorem Reps.get' {ds : List D} {vs : List V} {i : Nat} {v : V} (h : Reps K W H ds vs) (e : vs[i]? = some v) : ∃ d, ds[i]? = some d ∧ Rep K W H d v := by
  have hi : i < ds.length := by
    rw [← h.length]
    exact (List.getElem?_eq_some_iff.mp e).1
  obtain ⟨u, eu, hu⟩ := h.get (List.getElem?_eq_getElem hi)
  rw [e] at eu
  cases eu
  exact ⟨_, List.getElem?_eq_getElem hi, hu⟩
theorem Reps.nil : Reps K W H [] [] := by simp only [Reps]
theorem Reps.cons {d : D} {v : V} {ds : List D} {vs : List V} (h1 : Rep K W H d v) (h2 : Reps K W H ds vs) : Reps K W H (d :: ds) (v :: vs) := by
  simp only [Reps]
  exact ⟨v, vs, rfl, h1, h2⟩
theorem Reps.append : ∀ {ds es : List D} {vs us : List V}, Reps K W H ds vs → Reps K W H es us → Reps K W H (ds ++ es) (vs ++ us)
  | [], es, vs, us, h, q => by
    simp only [Reps] at h
    subst h
    exact q
  | d :: ds, es, vs, us, h, q => by
    simp only [Reps] at h
    obtain ⟨v, r, rfl, h1, h2⟩ := h
    exact .cons h1 (h2.append q)
theorem Reps.take : ∀ {ds : List D} {vs : List V} (n : Nat), Reps K W H ds vs → Reps K W H (ds.take n) (vs.take n)
  | _, _, 0, _ => by simp only [List.take_zero]; exact .nil
  | [], vs, n + 1, h => by simp only [Reps] at h; subst h; exact .nil
  | d :: ds, vs, n + 1, h => by
    simp only [Reps] at h
    obtain ⟨v, r, rfl, h1, h2⟩ := h
    exact .cons h1 (h2.take n)
theorem Reps.drop : ∀ {ds : List D} {vs : List V} (n : Nat), Reps K W H ds vs → Reps K W H (ds.drop n) (vs.drop n)
  | _, _, 0, h => h
  | [], vs, n + 1, h => by simp only [Reps] at h; subst h; exact .nil
  | d :: ds, vs, n + 1, h => by
    simp only [Reps] at h
    obtain ⟨v, r, rfl, h1, h2⟩ := h
    exact h2.drop n
theorem Reps.reverse : ∀ {ds : List D} {vs : List V}, Reps K W H ds vs → Reps K W H ds.reverse vs.reverse
  | [], vs, h => by simp only [Reps] at h; subst h; exact .nil
  | d :: ds, vs, h => by
    simp only [Reps] at h
    obtain ⟨v, r, rfl, h1, h2⟩ := h
    simp only [List.reverse_cons]
    exact h2.reverse.append (.cons h1 .nil)
theorem Reps.set : ∀ {ds : List D} {vs : List V} (i : Nat) {d : D} {v : V}, Reps K W H ds vs → Rep K W H d v → Reps K W H (ds.set i d) (vs.set i v)
  | [], vs, i, d, v, h, _ => by simp only [Reps] at h; subst h; exact .nil
  | x :: ds, vs, 0, d, v, h, q => by
    simp only [Reps] at h
    obtain ⟨u, r, rfl, h1, h2⟩ := h
    exact .cons q h2
  | x :: ds, vs, i + 1, d, v, h, q => by
    simp only [Reps] at h
    obtain ⟨u, r, rfl, h1, h2⟩ := h
    exact .cons h1 (h2.set i q)
theorem Reps.rep {ds : List D} {vs : List V} (h : Reps K W H ds vs) : ∀ k : Nat, Reps K W H (List.replicate k ds).flatten (List.replicate k vs).flatten
  | 0 => .nil
  | k + 1 => by
    simp only [List.replicate_succ, List.flatten_cons]
    exact h.append (h.rep k)
end
end DD
namespace DD
abbrev Sg := L2.St
open PySem PySem.Spec PyProof.Rows L2

/-! ### results -/
inductive Out (S α : Type) where
  | ok (a : α) (s : S)
  | ex (c : Str) (fs : List (Str × D)) (s : S)
  | bad
abbrev M (S α : Type) := S → Out S α
namespace M
def ret {S α : Type} (a : α) : M S α := fun s => .ok a s
def bind {S α β : Type} (m : M S α) (f : α → M S β) : M S β := fun s => match m s with
  | .ok a s' => f a s'
  | .ex c fs s' => .ex c fs s'
  | .bad => .bad
def fail {S α : Type} : M S α := fun _ => .bad
def ofO {S α : Type} (o : Option α) : M S α := match o with
  | some a => ret a
  | none => fail
section
variable {S α β γ : Type}
theorem ret_bind (a : α) (f : α → M S β) : bind (ret a) f = f a := rfl
theorem fail_bind (f : α → M S β) : bind fail f = fail := rfl
theorem bind_ret (m : M S α) : bind m ret = m := by
  funext s
  show (match m s with | .ok a s' => _ | .ex c fs s' => _ | .bad => _) = m s
  cases m s <;> rfl
theorem bind_assoc (m : M S α) (f : α → M S β) (g : β → M S γ) : bind (bind m f) g = bind m fun a => bind (f a) g := by
  funext s
  show (match (match m s with | .ok a s' => f a s' | .ex c fs s' => .ex c fs s' | .bad => .bad) with | .ok a s' => g a s' | .ex c fs s' => .ex c fs s' | .bad => .bad) = (match m s with | .ok a s' => _ | .ex c fs s' => _ | .bad => _)
  cases m s <;> rfl
theorem ofO_some (a : α) : (ofO (some a) : M S α) = ret a := rfl
theorem ofO_none : (ofO none : M S α) = fail := rfl
end
end M

/-! ### the part of the heap that defs may change besides their own: its state -/
structure Wd (S : Type) where
  foot : Set'
  rel : S → Hp → Prop
  loc : ∀ {s H H'}, rel s H → (∀ a, foot a → H' a = H a) → rel s H'
  here : ∀ {s H a}, rel s H → foot a → H a ≠ none
  flat : ∀ {s H a o}, rel s H → foot a → H a = some o → isT o = false

/-- where one stands: the world, what a value may not touch, the heap at the entry, the wish about exceptions -/
structure Dc {S : Type} (wd : Wd S) where
  av : Set'
  Hb : Hp
  E : XK
  sub : ∀ a, wd.foot a → av a
  low : ∀ a, av a → Hb a ≠ none

/-- a def's slot: nothing, a value, an object of one's own -/
inductive Sl where
  | no
  | fz (d : D)
  | ow (d : D)

def Ow {S : Type} {wd : Wd S} (C : Dc wd) (env : List Sl) (σ : Sg) (al : List Nat) : Set' := fun a =>
  C.av a ∨ ∃ (i : Nat) (d : D), env[i]? = some (.ow d) ∧ i ∉ al ∧ σ[i]? = some (some (V.ref a))

def memK (l : List Key) (k : Key) : Bool := l.any fun j => decide (k = j)
/-- an own object at a -/
def Top (g : Gx) (W : Set') (H : Hp) : D → Addr → Prop
  | .lst l, a => ∃ xs, H a = some (.lst xs) ∧ Reps g.K W H l xs
  | .dct l, a => ∃ kvs, H a = some (.dK kvs) ∧ RepKs g.K W H l kvs
  | .st l, a => H a = some (SetK g.P g.w a (memK l) l.length)
  | _, _ => False
theorem Top.some {g : Gx} {W : Set'} {H : Hp} {d : D} {a : Addr} (h : Top g W H d a) : ∃ o, H a = some o ∧ isT o = false := by
  cases d with
  | lst l => obtain ⟨xs, e, _⟩ := h; exact ⟨_, e, rfl⟩
  | dct l => obtain ⟨xs, e, _⟩ := h; exact ⟨_, e, rfl⟩
  | st l => exact ⟨_, h, rfl⟩
  | _ => exact False.elim h
theorem Top.mv {g : Gx} {W W' : Set'} {H H' : Hp} {d : D} {a : Addr} (m : Mv W H W' H') (e : H' a = H a) (h : Top g W H d a) : Top g W' H' d a := by
  cases d with
  | lst l => obtain ⟨xs, e1, r⟩ := h; exact ⟨xs, e.trans e1, Reps.mv m r⟩
  | dct l => obtain ⟨xs, e1, r⟩ := h; exact ⟨xs, e.trans e1, RepKs.mv m r⟩
  | st l => exact e.trans h
  | _ => exact False.elim h
theorem Top.rep {g : Gx} {W : Set'} {H : Hp} {d : D} {a : Addr} (n : ¬ W a) (ns : ∀ l, d ≠ .st l) (h : Top g W H d a) : Rep g.K W H d (.ref a) := by
  cases d with
  | lst l => obtain ⟨xs, e1, r⟩ := h; simp only [Rep]; exact ⟨a, xs, rfl, ⟨e1, n⟩, r⟩
  | dct l => obtain ⟨xs, e1, r⟩ := h; simp only [Rep]; exact ⟨a, xs, rfl, ⟨e1, n⟩, r⟩
  | st l => exact (ns l rfl).elim
  | _ => exact False.elim h
theorem Top.hard {g : Gx} {W W' : Set'} {H : Hp} {d : D} {a : Addr} (hh : d.hardIn = true) (h : Top g W H d a) : Top g W' H d a := by
  cases d with
  | lst l => obtain ⟨xs, e1, r⟩ := h; exact ⟨xs, e1, Reps.hard hh r⟩
  | dct l => obtain ⟨xs, e1, r⟩ := h; exact ⟨xs, e1, RepKs.hard hh r⟩
  | st l => exact h
  | _ => exact False.elim h

structure RelE {S : Type} {wd : Wd S} (g : Gx) (C : Dc wd) (env : List Sl) (σ : Sg) (H : Hp) (s : S) : Prop where
  len : env.length = σ.length
  ext : Mv wd.foot C.Hb wd.foot H
  rel : wd.rel s H
  fz : ∀ (i : Nat) (d : D), env[i]? = some (.fz d) → ∃ v, σ[i]? = some (some v) ∧ Rep g.K (Ow C env σ []) H d v
  ow : ∀ (i : Nat) (d : D), env[i]? = some (.ow d) → ∃ a : Addr, σ[i]? = some (some (V.ref a)) ∧ Top g (Ow C env σ []) H d a ∧ ¬ C.av a ∧ C.Hb a = none
  inj : ∀ (i j : Nat) (d e : D) (a : Addr), env[i]? = some (.ow d) → env[j]? = some (.ow e) → σ[i]? = some (some (V.ref a)) → σ[j]? = some (some (V.ref a)) → i = j

section
variable {S : Type} {wd : Wd S} {g : Gx} {C : Dc wd} {env env' : List Sl} {σ σ' : Sg} {H H' H'' : Hp} {s s' : S} {al bl : List Nat} {a p : Addr} {d : D} {v : V} {i j : Nat}
theorem Ow.sub (h : ∀ i, i ∈ al → i ∈ bl) : ∀ a, Ow C env σ bl a → Ow C env σ al a := fun a z => z.imp id fun ⟨i, d, e, n, q⟩ => ⟨i, d, e, fun m => n (h i m), q⟩
theorem Ow.nil : ∀ a, Ow C env σ bl a → Ow C env σ [] a := Ow.sub fun _ z => by simp at z
/-- what one has of the world stands through an expression -/
theorem RelE.here (R : RelE g C env σ H s) (h : Ow C env σ al a) : H a ≠ none := by
  rcases h with h | ⟨i, d, e, _, q⟩
  · by_cases f : wd.foot a
    · exact wd.here R.rel f
    · intro z
      cases e : C.Hb a with
      | none => exact C.low a h e
      | some o =>
        rw [((R.ext a o e).1 f).1] at z
        cases z
  · obtain ⟨b, qb, t, _⟩ := R.ow i d e
    rw [q] at qb
    cases qb
    obtain ⟨o, eo, _⟩ := t.some
    rw [eo]
    exact fun z => by cases z
abbrev Ext (C : Dc wd) (H H' : Hp) : Prop := Mv wd.foot H wd.foot H'
theorem Ext.ow (R : RelE g C env σ H s) (m : Ext C H H') : Mv (Ow C env σ al) H (Ow C env σ al) H' := fun a o h =>
  ⟨fun n => ⟨((m a o h).1 fun f => n (.inl (C.sub a f))).1, n⟩, (m a o h).2⟩
theorem RelE.step (R : RelE g C env σ H s) (m : Ext C H H') (r : wd.rel s' H') : RelE g C env σ H' s' where
  len := R.len
  ext := R.ext.trans m
  rel := r
  fz := fun i d e => by
    obtain ⟨v, q, h⟩ := R.fz i d e
    exact ⟨v, q, h.mv (Ext.ow R m)⟩
  ow := fun i d e => by
    obtain ⟨a, q, t, n, hb⟩ := R.ow i d e
    refine ⟨a, q, t.mv (Ext.ow R m) ?_, n, hb⟩
    obtain ⟨o, eo, _⟩ := t.some
    rw [eo]
    exact ((m a o eo).1 fun f => n (C.sub a f)).1
  inj := R.inj
/-- a place that is free behind was free ahead -/
theorem Ext.back {W : Wd S} {s' : S} (m : Mv W.foot H W.foot H') (r : W.rel s' H') (e : H' p = none) : H p = none := by
  cases q : H p with
  | none => rfl
  | some o =>
    by_cases f : W.foot p
    · exact (W.here r f e).elim
    · rw [((m p o q).1 f).1] at e
      cases e
theorem RelE.av (R : RelE g C env σ H s) (h : C.av a) : H a ≠ none := R.here (al := []) (.inl h)
end

/-! ### exceptions -/
def RepF (K : PySem.W.Frag) (W : Set') (H : Hp) : List (Str × D) → List (Str × V) → Prop
  | [], vs => vs = []
  | (k, d) :: ds, vs => ∃ v r, vs = (k, v) :: r ∧ Rep K W H d v ∧ RepF K W H ds r
theorem RepF.mv {K : PySem.W.Frag} {W W' : Set'} {H H' : Hp} (m : Mv W H W' H') : ∀ {d : List (Str × D)} {v : List (Str × V)}, RepF K W H d v → RepF K W' H' d v
  | [], _, h => h
  | (k, d) :: ds, vs, ⟨v, r, e, h1, h2⟩ => ⟨v, r, e, h1.mv m, RepF.mv m h2⟩
/-- what is wanted where an exception of the class named c leaves -/
def ExP {S : Type} (g : Gx) (W : Wd S) (H : Hp) (E : XK) (c : Str) (fs : List (Str × D)) (s : S) : Prop :=
  ∀ (Ca d : Addr) (vs : List (Str × V)) (H' : Hp), g.mg c = some (.ref Ca) → Mv W.foot H W.foot H' → W.rel s H' → H' d = some (.xd vs) → RepF g.K W.foot H' fs vs → E (.ref Ca) (some d) H'
theorem ExP.mono {S : Type} {g : Gx} {W : Wd S} {H H1 : Hp} {E : XK} {c : Str} {fs : List (Str × D)} {s : S} (h : ExP g W H E c fs s) (m : Mv W.foot H W.foot H1) : ExP g W H1 E c fs s :=
  fun Ca d vs H' a b r x q => h Ca d vs H' a (m.trans b) r x q

/-! ### judgements -/
section
variable {S : Type} {wd : Wd S}
/-- an expression's end -/
def ResE (g : Gx) (C : Dc wd) (W : Set') (H : Hp) (o : Out S D) (Q : VK) : Prop := match o with
  | .ok d s' => ∀ v H', Ext C H H' → wd.rel s' H' → Rep g.K W H' d v → Q v H'
  | .ex c fs s' => ExP g wd C.Hb C.E c fs s'
  | .bad => False
/-- .. where a new object comes -/
def ResF (g : Gx) (C : Dc wd) (W : Set') (H : Hp) (o : Out S D) (Q : VK) : Prop := match o with
  | .ok d s' => ∀ p H', Ext C H H' → wd.rel s' H' → H p = none → Top g (fun a => W a ∨ a = p) H' d p → Q (.ref p) H'
  | .ex c fs s' => ExP g wd C.Hb C.E c fs s'
  | .bad => False
def ResT (g : Gx) (C : Dc wd) (H : Hp) (o : Out S Bool) (Q : Bool → Hp → Prop) : Prop := match o with
  | .ok b s' => ∀ H', Ext C H H' → wd.rel s' H' → Q b H'
  | .ex c fs s' => ExP g wd C.Hb C.E c fs s'
  | .bad => False
def ResA (g : Gx) (C : Dc wd) (W : Set') (H : Hp) (o : Out S (List D)) (Q : List V → Hp → Prop) : Prop := match o with
  | .ok d s' => ∀ vs H', Ext C H H' → wd.rel s' H' → Reps g.K W H' d vs → Q vs H'
  | .ex c fs s' => ExP g wd C.Hb C.E c fs s'
  | .bad => False
abbrev En (S α : Type) := List Sl → M S α
def lE (g : Gx) (C : Dc wd) (al : List Nat) (m : En S D) : TE := fun σ H Q => ∃ env s, RelE g C env σ H s ∧ ResE g C (Ow C env σ al) H (m env s) Q
def lF (g : Gx) (C : Dc wd) (al : List Nat) (m : En S D) : TE := fun σ H Q => ∃ env s, RelE g C env σ H s ∧ ResF g C (Ow C env σ al) H (m env s) Q
def lT (g : Gx) (C : Dc wd) (m : En S Bool) : TT := fun σ H Q => ∃ env s, RelE g C env σ H s ∧ ResT g C H (m env s) Q
def lA (g : Gx) (C : Dc wd) (al : List Nat) (m : En S (List D)) : TA := fun σ H Q => ∃ env s, RelE g C env σ H s ∧ ResA g C (Ow C env σ al) H (m env s) Q
structure DE (X : Cx) (C : Dc wd) (e : Expr) (al : List Nat) (m : En S D) : Prop where
  run : PE X e (lE (gx X) C al m)
structure DF (X : Cx) (C : Dc wd) (e : Expr) (al : List Nat) (m : En S D) : Prop where
  run : PE X e (lF (gx X) C al m)
structure DT (X : Cx) (C : Dc wd) (e : Expr) (m : En S Bool) : Prop where
  run : PT X e (lT (gx X) C m)
structure DA (X : Cx) (C : Dc wd) (es : List Expr) (al : List Nat) (m : En S (List D)) : Prop where
  run : PA X es (lA (gx X) C al m)

/-- a statement's end -/
inductive Fl where
  | nx (env : List Sl)
  | rt (d : D)
  | bk (env : List Sl)
  | ct (env : List Sl)
def Post (g : Gx) (C : Dc wd) (Dn : Ends) (W0 : Set') (H0 : Hp) (o : Out S Fl) : Prop := match o with
  | .ok (.nx env) s => ∀ σ H, RelE g C env σ H s → Mv W0 H0 (Ow C env σ []) H → Dn.nx σ H
  | .ok (.bk env) s => ∀ σ H, RelE g C env σ H s → Mv W0 H0 (Ow C env σ []) H → Dn.bk σ H
  | .ok (.ct env) s => ∀ σ H, RelE g C env σ H s → Mv W0 H0 (Ow C env σ []) H → Dn.ct σ H
  | .ok (.rt d) s => ∀ v H, Mv wd.foot C.Hb wd.foot H → wd.rel s H → Rep g.K C.av H d v → Dn.rt v H
  | .ex c fs s => ExP g wd C.Hb C.E c fs s
  | .bad => False
def lS (g : Gx) (C : Dc wd) (m : En S Fl) : TS := fun Dn σ H => ∃ env s, RelE g C env σ H s ∧ Post g C Dn (Ow C env σ []) H (m env s)
structure DS (X : Cx) (C : Dc wd) (st : Stmt) (m : En S Fl) : Prop where
  run : PS X st (lS (gx X) C m)
structure DSs (X : Cx) (C : Dc wd) (st : List Stmt) (m : En S Fl) : Prop where
  run : PSs X st (lS (gx X) C m)

/-- what a context must be -/
structure CF (lv : Nat) (X : Cx) (C : Dc wd) : Prop where
  calm : X.calm = true
  nd : X.N.Nodup
  room : Room lv X.A
  tk : Takes X (fun cls d _ H => C.E cls d H)
  po : PassesOwn (model X.prog X.w) X.A X.env X.xe
theorem CF.pas {lv : Nat} {X : Cx} {C : Dc wd} (F : CF lv X C) : Passes (L2.CX X.prog X.w) X C.E := passes_call F.tk fun _ _ _ _ h => h
end

/-! ### the readings weakened -/
section
variable {X : Cx} {e : Expr} {es : List Expr} {st : Stmt} {sts : List Stmt}
theorem PE_imp {t t' : TE} (h : PE X e t) (i : ∀ σ H Q, t' σ H Q → t σ H Q) : PE X e t' := ⟨fun pins s σ H Q I q => h.run pins s σ H Q I (i σ H Q q)⟩
theorem PT_imp {t t' : TT} (h : PT X e t) (i : ∀ σ H Q, t' σ H Q → t σ H Q) : PT X e t' := ⟨fun pins s σ H Q I q => h.run pins s σ H Q I (i σ H Q q)⟩
theorem PA_imp {t t' : TA} (h : PA X es t) (i : ∀ σ H Q, t' σ H Q → t σ H Q) : PA X es t' := ⟨fun pos pins s σ H Q I q => h.run pos pins s σ H Q I (i σ H Q q)⟩
theorem PS_imp {t t' : TS} (h : PS X st t) (i : ∀ D σ H, t' D σ H → t D σ H) : PS X st t' := ⟨fun pins s σ H D I q => h.run pins s σ H D I (i D σ H q)⟩
theorem PSs_imp {t t' : TS} (h : PSs X sts t) (i : ∀ D σ H, t' D σ H → t D σ H) : PSs X sts t' := ⟨fun pins s σ H D I q => h.run pins s σ H D I (i D σ H q)⟩
end
end DD
namespace DD
open PySem PySem.Spec PyProof.Rows L2
section
variable {S : Type} {wd : Wd S} {g : Gx} {C : Dc wd} {env env' : List Sl} {σ σ' : Sg} {H H' H1 : Hp} {s s' : S} {al bl : List Nat} {a p : Addr} {d : D} {v : V} {i j : Nat} {W : Set'}

/-! ### one behind another -/
structure Fam {β : Type} (g : Gx) (C : Dc wd) (Rs : Hp → Out S β → Prop) : Prop where
  ex : ∀ {H c fs s}, Rs H (.ex c fs s) → ExP g wd C.Hb C.E c fs s
  bad : ∀ {H}, ¬ Rs H .bad
  mono : ∀ {H H1 s1 o}, Ext C H H1 → wd.rel s1 H1 → Rs H o → Rs H1 o
theorem famE {Q : VK} : Fam g C fun H o => ResE g C W H o Q where
  ex := fun h => h
  bad := fun h => h
  mono := fun {H H1 s1 o} m r h => by
    cases o with
    | ok d s' => exact fun v H' m' r' q => h v H' (m.trans m') r' q
    | ex c fs s' => exact h
    | bad => exact h
theorem famF {Q : VK} : Fam g C fun H o => ResF g C W H o Q where
  ex := fun h => h
  bad := fun h => h
  mono := fun {H H1 s1 o} m r h => by
    cases o with
    | ok d s' => exact fun p H' m' r' n q => h p H' (m.trans m') r' (Ext.back m r n) q
    | ex c fs s' => exact h
    | bad => exact h
theorem famT {Q : Bool → Hp → Prop} : Fam g C fun H o => ResT g C H o Q where
  ex := fun h => h
  bad := fun h => h
  mono := fun {H H1 s1 o} m r h => by
    cases o with
    | ok d s' => exact fun H' m' r' => h H' (m.trans m') r'
    | ex c fs s' => exact h
    | bad => exact h
theorem famA {Q : List V → Hp → Prop} : Fam g C fun H o => ResA g C W H o Q where
  ex := fun h => h
  bad := fun h => h
  mono := fun {H H1 s1 o} m r h => by
    cases o with
    | ok d s' => exact fun v H' m' r' q => h v H' (m.trans m') r' q
    | ex c fs s' => exact h
    | bad => exact h
theorem famP {Dn : Ends} {W0 : Set'} {H0 : Hp} : Fam g C fun (_ : Hp) o => Post g C Dn W0 H0 o where
  ex := fun h => h
  bad := fun h => h
  mono := fun _ _ h => h
section
variable {β : Type} {Rs : Hp → Out S β → Prop}
theorem bindE {m : M S D} {k : D → M S β} {Q : VK} (R : RelE g C env σ H s) (F : Fam g C Rs) (h : Rs H (M.bind m k s))
    (hk : ∀ d s1 v H1, RelE g C env σ H1 s1 → Ext C H H1 → Rep g.K (Ow C env σ al) H1 d v → Rs H1 (k d s1) → Q v H1) : ResE g C (Ow C env σ al) H (m s) Q := by
  unfold M.bind at h
  cases e : m s with
  | ok d s1 =>
    rw [e] at h
    exact fun v H1 m1 r q => hk d s1 v H1 (R.step m1 r) m1 q (F.mono m1 r h)
  | ex c fs s1 =>
    rw [e] at h
    exact F.ex h
  | bad =>
    rw [e] at h
    exact F.bad h
theorem bindF {m : M S D} {k : D → M S β} {Q : VK} (R : RelE g C env σ H s) (F : Fam g C Rs) (h : Rs H (M.bind m k s))
    (hk : ∀ d s1 p H1, RelE g C env σ H1 s1 → Ext C H H1 → H p = none → Top g (fun a => Ow C env σ al a ∨ a = p) H1 d p → Rs H1 (k d s1) → Q (.ref p) H1) : ResF g C (Ow C env σ al) H (m s) Q := by
  unfold M.bind at h
  cases e : m s with
  | ok d s1 =>
    rw [e] at h
    exact fun p H1 m1 r n q => hk d s1 p H1 (R.step m1 r) m1 n q (F.mono m1 r h)
  | ex c fs s1 =>
    rw [e] at h
    exact F.ex h
  | bad =>
    rw [e] at h
    exact F.bad h
theorem bindT {m : M S Bool} {k : Bool → M S β} {Q : Bool → Hp → Prop} (R : RelE g C env σ H s) (F : Fam g C Rs) (h : Rs H (M.bind m k s))
    (hk : ∀ b s1 H1, RelE g C env σ H1 s1 → Ext C H H1 → Rs H1 (k b s1) → Q b H1) : ResT g C H (m s) Q := by
  unfold M.bind at h
  cases e : m s with
  | ok d s1 =>
    rw [e] at h
    exact fun H1 m1 r => hk d s1 H1 (R.step m1 r) m1 (F.mono m1 r h)
  | ex c fs s1 =>
    rw [e] at h
    exact F.ex h
  | bad =>
    rw [e] at h
    exact F.bad h
theorem bindA {m : M S (List D)} {k : List D → M S β} {Q : List V → Hp → Prop} (R : RelE g C env σ H s) (F : Fam g C Rs) (h : Rs H (M.bind m k s))
    (hk : ∀ d s1 v H1, RelE g C env σ H1 s1 → Ext C H H1 → Reps g.K (Ow C env σ al) H1 d v → Rs H1 (k d s1) → Q v H1) : ResA g C (Ow C env σ al) H (m s) Q := by
  unfold M.bind at h
  cases e : m s with
  | ok d s1 =>
    rw [e] at h
    exact fun v H1 m1 r q => hk d s1 v H1 (R.step m1 r) m1 q (F.mono m1 r h)
  | ex c fs s1 =>
    rw [e] at h
    exact F.ex h
  | bad =>
    rw [e] at h
    exact F.bad h
end
theorem ResE.ret {Q : VK} (h : ResE g C W H (M.ret d s) Q) (r : wd.rel s H) (q : Rep g.K W H d v) : Q v H := h v H Mv.refl r q

/-- a free place stays free of what one has -/
theorem RelE.new (R : RelE g C env σ H s) (n : H p = none) : ¬ Ow C env σ al p := fun z => R.here z n
theorem Wd.laid (w : Wd S) {s : S} {o : HO} (r : w.rel s H) (n : H p = none) : Mv w.foot H w.foot (upd H p o) ∧ w.rel s (upd H p o) := by
  refine ⟨(Mv.new n).thin fun a z => .inl z, w.loc r fun a f => ?_⟩
  refine upd_ne fun z => ?_
  subst z
  exact w.here r f n
end

/-! ### names, constants -/
section
variable {S : Type} {wd : Wd S} {X : Cx} {C : Dc wd} {al bl cl : List Nat} {x : Str} {pos : Pos}
def D.isSt : D → Bool
  | .st _ => true
  | _ => false
/-- a name that may hold an object of one's own -/
def eVar (i : Nat) : En S D := fun env => match env[i]? with
  | some (.fz d) => M.ret d
  | some (.ow d) => if d.isSt = true then M.fail else M.ret d
  | _ => M.fail
/-- a name that never does -/
def eVarF (i : Nat) : En S D := fun env => match env[i]? with
  | some (.fz d) => M.ret d
  | _ => M.fail
def eC (d : D) : En S D := fun _ => M.ret d
theorem var_fz {g : Gx} {env : List Sl} {σ : Sg} {H : Hp} {s : S} {i : Nat} {d : D} {Q : VK} (R : RelE g C env σ H s) (e : env[i]? = some (.fz d)) (h : ResE g C (Ow C env σ al) H (M.ret d s) Q) : tVar i σ H Q := by
  obtain ⟨v, q, r⟩ := R.fz i d e
  exact ⟨v, q, h.ret R.rel (r.mv (Mv.sub Ow.nil))⟩
theorem de_varF {i : Nat} (hN : X.N[i]? = some x := by rfl) (hv : Vis X.env.scope x := by first | exact Or.inl rfl | exact Or.inr (Or.inl rfl) | exact Or.inr (Or.inr rfl)) (hd : (x == ("__debug__" : Str)) = false := by decide +kernel)
    (hcd : (x == ("__classdict__" : Str)) = false := by decide +kernel) : DE X C (.Name x pos) [] (eVarF i) := by
  refine ⟨PE_imp (pe_var hN hv hd hcd) fun σ H Q ⟨env, s, R, h⟩ => ?_⟩
  unfold eVarF at h
  cases e : env[i]? with
  | none => rw [e] at h; exact False.elim h
  | some sl =>
    rw [e] at h
    cases sl with
    | fz d => exact var_fz R e h
    | no => exact False.elim h
    | ow d => exact False.elim h
theorem de_var {i : Nat} (hN : X.N[i]? = some x := by rfl) (hv : Vis X.env.scope x := by first | exact Or.inl rfl | exact Or.inr (Or.inl rfl) | exact Or.inr (Or.inr rfl)) (hd : (x == ("__debug__" : Str)) = false := by decide +kernel)
    (hcd : (x == ("__classdict__" : Str)) = false := by decide +kernel) : DE X C (.Name x pos) [i] (eVar i) := by
  refine ⟨PE_imp (pe_var hN hv hd hcd) fun σ H Q ⟨env, s, R, h⟩ => ?_⟩
  unfold eVar at h
  cases e : env[i]? with
  | none => rw [e] at h; exact False.elim h
  | some sl =>
    rw [e] at h
    cases sl with
    | fz d => exact var_fz R e h
    | no => exact False.elim h
    | ow d =>
      dsimp only at h
      split at h
      · exact False.elim h
      · rename_i hs
        obtain ⟨a, q, t, n, _⟩ := R.ow i d e
        refine ⟨_, q, h.ret R.rel (Top.rep ?_ ?_ (t.mv (Mv.sub Ow.nil) rfl))⟩
        · rintro (z | ⟨j, d', e', nj, q'⟩)
          · exact n z
          · have := R.inj i j d d' a e e' q q'
            subst this
            simp at nj
        · intro l z
          rw [z] at hs
          exact hs rfl
theorem de_int {i : Int} {j pos} : DE X C (.Constant (.int i) j pos) [] (eC (.int i)) := ⟨PE_imp pe_int fun σ H Q ⟨env, s, R, h⟩ => h.ret R.rel (by simp only [Rep])⟩
theorem de_bl {b : Bool} {j pos} : DE X C (.Constant (.bool b) j pos) [] (eC (.bl b)) := ⟨PE_imp pe_bl fun σ H Q ⟨env, s, R, h⟩ => h.ret R.rel (by simp only [Rep])⟩
theorem de_non {j pos} : DE X C (.Constant .none j pos) [] (eC .non) := ⟨PE_imp pe_non fun σ H Q ⟨env, s, R, h⟩ => h.ret R.rel (by simp only [Rep])⟩
theorem de_str {x : Str} {j pos} (hx : okS x := by decide +kernel) : DE X C (.Constant (.str x) j pos) [] (eC (.str x)) := ⟨PE_imp pe_str fun σ H Q ⟨env, s, R, h⟩ => h.ret R.rel (by simp only [Rep, true_and]; exact hx)⟩
/-- a constant of the module -/
theorem de_gint {i : Int} (hm : ∃ t, X.mg x = some (.int i t)) (hg : Gl X x := by rfl) (hd : (x == ("__debug__" : Str)) = false := by decide +kernel) : DE X C (.Name x pos) [] (eC (.int i)) := by
  obtain ⟨t, hm⟩ := hm
  exact ⟨PE_imp (pe_glob (v := .int i) hg hm ⟨_, rfl⟩ hd) fun σ H Q ⟨env, s, R, h⟩ => h.ret R.rel (by simp only [Rep])⟩
theorem de_gstr {z : Str} (hm : ∃ t, X.mg x = some (.str z t)) (hz : okS z := by decide +kernel) (hg : Gl X x := by rfl) (hd : (x == ("__debug__" : Str)) = false := by decide +kernel) : DE X C (.Name x pos) [] (eC (.str z)) := by
  obtain ⟨t, hm⟩ := hm
  exact ⟨PE_imp (pe_glob (v := .str z) hg hm ⟨_, rfl⟩ hd) fun σ H Q ⟨env, s, R, h⟩ => h.ret R.rel (by simp only [Rep, true_and]; exact hz)⟩

/-! ### operations by values -/
/-- two values to one -/
def V2 (K : PySem.W.Frag) (w : Wd S) (r : R2) (f : D → D → Option D) : Prop := ∀ (W : Set') (H : Hp) (s : S) (x y : V) (d e z : D) (Q : VK),
  w.rel s H → (∀ a, W a → H a ≠ none) → (∀ a, w.foot a → W a) → Rep K W H d x → Rep K W H e y → f d e = some z → (∀ v H', Mv w.foot H w.foot H' → w.rel s H' → Rep K W H' z v → Q v H') → r x y H Q
def V1 (K : PySem.W.Frag) (w : Wd S) (r : V → Hp → VK → Prop) (f : D → Option D) : Prop := ∀ (W : Set') (H : Hp) (s : S) (x : V) (d z : D) (Q : VK),
  w.rel s H → (∀ a, W a → H a ≠ none) → (∀ a, w.foot a → W a) → Rep K W H d x → f d = some z → (∀ v H', Mv w.foot H w.foot H' → w.rel s H' → Rep K W H' z v → Q v H') → r x H Q
def VN (K : PySem.W.Frag) (w : Wd S) (r : List V → Hp → VK → Prop) (f : List D → Option D) : Prop := ∀ (W : Set') (H : Hp) (s : S) (xs : List V) (ds : List D) (z : D) (Q : VK),
  w.rel s H → (∀ a, W a → H a ≠ none) → (∀ a, w.foot a → W a) → Reps K W H ds xs → f ds = some z → (∀ v H', Mv w.foot H w.foot H' → w.rel s H' → Rep K W H' z v → Q v H') → r xs H Q
/-- .. to a new object -/
def VNF (P : Program) (wl : World) (K : PySem.W.Frag) (mg : Str → Option Value) (w : Wd S) (r : List V → Hp → VK → Prop) (f : List D → Option D) : Prop := ∀ (W : Set') (H : Hp) (s : S) (xs : List V) (ds : List D) (z : D) (Q : VK),
  w.rel s H → (∀ a, W a → H a ≠ none) → (∀ a, w.foot a → W a) → Reps K W H ds xs → f ds = some z →
    (∀ p H', Mv w.foot H w.foot H' → w.rel s H' → H p = none → Top ⟨P, wl, K, mg⟩ (fun a => W a ∨ a = p) H' z p → Q (.ref p) H') → r xs H Q

variable {a b : Expr} {ma mb : En S D}
def eOp2 (f : D → D → Option D) (ma mb : En S D) : En S D := fun env => M.bind (ma env) fun d => M.bind (mb env) fun e => M.ofO (f d e)
theorem op2_imp {r : R2} {f : D → D → Option D} (hv : V2 X.K wd r f) (σ : Sg) (H : Hp) (Q : VK) (h : lE (gx X) C (al ++ bl) (eOp2 f ma mb) σ H Q) : tOp r (lE (gx X) C al ma) (lE (gx X) C bl mb) σ H Q := by
  obtain ⟨env, s, R, h⟩ := h
  unfold eOp2 at h
  refine ⟨env, s, R, bindE R famE h fun d s1 x H1 R1 m1 q1 h1 => ⟨env, s1, R1, bindE R1 famE h1 fun e s2 y H2 R2 m2 q2 h2 => ?_⟩⟩
  cases ef : f d e with
  | none =>
    rw [ef] at h2
    exact False.elim h2
  | some z =>
    rw [ef] at h2
    exact hv (Ow C env σ (al ++ bl)) H2 s2 x y d e z Q R2.rel (fun a z => R2.here z) (fun a z => .inl (C.sub a z)) ((q1.mv (Ext.ow R1 m2)).mv (Mv.sub (Ow.sub fun i hi => List.mem_append_left _ hi)))
      (q2.mv (Mv.sub (Ow.sub fun i hi => List.mem_append_right _ hi))) ef fun v H' m r q => h2 v H' m r q
theorem de_bin {op : Operator} {r : R2} {f : D → D → Option D} (ho : OpR X (binaryOp op) r) (hv : V2 X.K wd r f) (ha : DE X C a al ma) (hb : DE X C b bl mb) : DE X C (.BinOp a op b pos) (al ++ bl) (eOp2 f ma mb) :=
  ⟨PE_imp (pe_op ho ha.run hb.run) (op2_imp hv)⟩
theorem de_cmp {op : CmpOp} {r : R2} {f : D → D → Option D} (ho : OpR X (compareOp op) r) (hv : V2 X.K wd r f) (ha : DE X C a al ma) (hb : DE X C b bl mb) (hm : behindInMarks op b = false) : DE X C (.Compare a [op] [b] pos) (al ++ bl) (eOp2 f ma mb) :=
  ⟨PE_imp (pe_cmpR ho ha.run hb.run hm) (op2_imp hv)⟩
theorem de_ixr {r : R2} {f : D → D → Option D} (ho : IxR X r) (hv : V2 X.K wd r f) (ha : DE X C a al ma) (hb : DE X C b bl mb) (hs : PlainIx b) : DE X C (.Subscript a b pos) (al ++ bl) (eOp2 f ma mb) :=
  ⟨PE_imp (pe_ix ho ha.run hb.run hs) (op2_imp hv)⟩
def eOp1 (f : D → Option D) (ma : En S D) : En S D := fun env => M.bind (ma env) fun d => M.ofO (f d)
theorem de_un {op : UnaryOp} {r : V → Hp → VK → Prop} {f : D → Option D} (ho : UnR X (unaryOp op) r) (hv : V1 X.K wd r f) (ha : DE X C a al ma) : DE X C (.UnaryOp op a pos) al (eOp1 f ma) := by
  refine ⟨PE_imp (pe_un ho ha.run) fun σ H Q ⟨env, s, R, h⟩ => ?_⟩
  unfold eOp1 at h
  refine ⟨env, s, R, bindE R famE h fun d s1 x H1 R1 m1 q1 h1 => ?_⟩
  cases ef : f d with
  | none =>
    rw [ef] at h1
    exact False.elim h1
  | some z =>
    rw [ef] at h1
    exact hv _ H1 s1 x d z Q R1.rel (fun a z => R1.here z) (fun a z => .inl (C.sub a z)) q1 ef fun v H' m r q => h1 v H' m r q

/-! ### argument lists, displays -/
def aNil : En S (List D) := fun _ => M.ret []
def aCons (ma : En S D) (mr : En S (List D)) : En S (List D) := fun env => M.bind (ma env) fun d => M.bind (mr env) fun r => M.ret (d :: r)
variable {e : Expr} {es : List Expr} {m : En S D} {mr : En S (List D)}
theorem da_nil : DA X C [] [] aNil := ⟨PA_imp pa_nil fun σ H Q ⟨env, s, R, h⟩ => h [] H Mv.refl R.rel .nil⟩
theorem da_cons (ha : DE X C e al m) (hr : DA X C es bl mr) (hs : starEach (e :: es) X.env = (false, eval e X.env) :: starEach es X.env := by rfl) : DA X C (e :: es) (al ++ bl) (aCons m mr) := by
  refine ⟨PA_imp (pa_cons ha.run hr.run hs) fun σ H Q ⟨env, s, R, h⟩ => ?_⟩
  unfold aCons at h
  refine ⟨env, s, R, bindE R famA h fun d s1 x H1 R1 m1 q1 h1 => ⟨env, s1, R1, bindA R1 famA h1 fun ds s2 xs H2 R2 m2 q2 h2 => ?_⟩⟩
  exact h2 (x :: xs) H2 Mv.refl R2.rel (.cons ((q1.mv (Ext.ow R1 m2)).mv (Mv.sub (Ow.sub fun i hi => List.mem_append_left _ hi))) (q2.mv (Mv.sub (Ow.sub fun i hi => List.mem_append_right _ hi))))
def eTup (ma : En S (List D)) : En S D := fun env => M.bind (ma env) fun ds => if ds.length ≤ 4096 then M.ret (.tup ds) else M.fail
def eLst (ma : En S (List D)) : En S D := fun env => M.bind (ma env) fun ds => if ds.length ≤ 4096 then M.ret (.lst ds) else M.fail
theorem small4096 {n : Nat} (h : n ≤ 4096) : n ≤ sizeLine := Nat.le_trans h (by rw [sizeLine_eq]; decide)
theorem de_tup {x1} (h : DA X C es al mr) : DE X C (.Tuple es x1 pos) al (eTup mr) := by
  refine ⟨PE_imp (pe_tupZ h.run) fun σ H Q ⟨env, s, R, h⟩ => ?_⟩
  unfold eTup at h
  refine ⟨env, s, R, bindA R famE h fun ds s1 xs H1 R1 m1 q1 h1 => ?_⟩
  split at h1
  · rename_i hl
    refine ⟨by rw [q1.length]; exact small4096 hl, fun p o hp hd => ?_⟩
    obtain ⟨m2, r2⟩ := wd.laid (o := .frz o (.tup xs)) R1.rel hp
    refine h1 _ _ m2 r2 ?_
    simp only [Rep]
    exact ⟨p, xs, rfl, .at hd, q1.mv (Ext.ow R1 m2)⟩
  · exact False.elim h1
theorem df_lst (h : DA X C es al mr) : DF X C (.List es pos) al (eLst mr) := by
  refine ⟨PE_imp (pe_lst h.run) fun σ H Q ⟨env, s, R, h⟩ => ?_⟩
  unfold eLst at h
  refine ⟨env, s, R, bindA R famF h fun ds s1 xs H1 R1 m1 q1 h1 => ?_⟩
  split at h1
  · rename_i hl
    refine ⟨by rw [q1.length]; exact small4096 hl, fun p hp => ?_⟩
    obtain ⟨m2, r2⟩ := wd.laid (o := .lst xs) R1.rel hp
    exact h1 p _ m2 r2 hp ⟨xs, upd_same, q1.mv (Mv.new hp)⟩
  · exact False.elim h1
/-- a new object is a value -/
theorem ResF.of {g : Gx} {env : List Sl} {σ : Sg} {H : Hp} {s : S} {o : Out S D} {Q : VK} (R : RelE g C env σ H s) (hs : ∀ d s', o = .ok d s' → d.isSt = false) (h : ResE g C (Ow C env σ al) H o Q) : ResF g C (Ow C env σ al) H o Q := by
  cases o with
  | ok d s' =>
    intro p H' m r n t
    refine h _ _ m r (Top.rep (R.new n) ?_ (t.mv (Mv.sub fun a z => .inl z) rfl))
    intro l z
    have := hs d s' rfl
    rw [z] at this
    cases this
  | ex c fs s' => exact h
  | bad => exact h
theorem DF.de (h : DF X C e al m) (hs : ∀ env s d s', m env s = .ok d s' → d.isSt = false) : DE X C e al m :=
  ⟨PE_imp h.run fun σ H Q ⟨env, s, R, q⟩ => ⟨env, s, R, ResF.of R (hs env s) q⟩⟩
theorem lst_ns {env : List Sl} {s : S} {d : D} {s' : S} (h : eLst mr env s = .ok d s') : d.isSt = false := by
  unfold eLst M.bind at h
  split at h
  · dsimp only at h
    split at h
    · cases h; rfl
    · cases h
  · cases h
  · cases h
theorem de_lst (h : DA X C es al mr) : DE X C (.List es pos) al (eLst mr) := (df_lst h).de fun _ _ _ _ => lst_ns

/-! ### calls of built-ins -/
variable {r : List V → Hp → VK → Prop} {f : List D → Option D} {id T : String} {p : Pos}
def eCB (f : List D → Option D) (mr : En S (List D)) : En S D := fun env => M.bind (mr env) fun ds => M.ofO (f ds)
theorem cb_imp (hv : VN X.K wd r f) (σ : Sg) (H : Hp) (Q : VK) (h : lE (gx X) C al (eCB f mr) σ H Q) : tCB r (lA (gx X) C al mr) σ H Q := by
  obtain ⟨env, s, R, h⟩ := h
  unfold eCB at h
  refine ⟨env, s, R, bindA R famE h fun ds s1 xs H1 R1 m1 q1 h1 => ?_⟩
  cases ef : f ds with
  | none =>
    rw [ef] at h1
    exact False.elim h1
  | some z =>
    rw [ef] at h1
    exact hv _ H1 s1 xs ds z Q R1.rel (fun a z => R1.here z) (fun a z => .inl (C.sub a z)) q1 ef fun v H' m r q => h1 v H' m r q
theorem cbf_imp (hv : VNF X.prog X.w X.K X.mg wd r f) (σ : Sg) (H : Hp) (Q : VK) (h : lF (gx X) C al (eCB f mr) σ H Q) : tCB r (lA (gx X) C al mr) σ H Q := by
  obtain ⟨env, s, R, h⟩ := h
  unfold eCB at h
  refine ⟨env, s, R, bindA R famF h fun ds s1 xs H1 R1 m1 q1 h1 => ?_⟩
  cases ef : f ds with
  | none =>
    rw [ef] at h1
    exact False.elim h1
  | some z =>
    rw [ef] at h1
    exact hv _ H1 s1 xs ds z Q R1.rel (fun a z => R1.here z) (fun a z => .inl (C.sub a z)) q1 ef fun p H' m r n q => h1 p H' m r n q
theorem de_callB (hc : CallR X (.builtin id) r) (hv : VN X.K wd r f) (hm : X.mg x = none) (ha : DA X C (e :: es) al mr) (hb : bootBuiltins x = some (.builtin id) := by decide +kernel) (hg : Gl X x := by rfl) (hn : x ≠ "__name__" := by decide +kernel) (hdb : (x == ("__debug__" : Str)) = false := by decide +kernel)
    (he : starEach (e :: es) X.env = (false, eval e X.env) :: starEach es X.env := by rfl) (hpl : (backTo pos (starEach es X.env)).any (·.1) = false := by rfl) : DE X C (.Call (.Name x p) (e :: es) [] pos) al (eCB f mr) :=
  ⟨PE_imp (pe_callB hc hg hm hb ha.run hn hdb he hpl) (cb_imp hv)⟩
theorem de_callT (hc : CallR X (.type T) r) (hv : VN X.K wd r f) (hm : X.mg x = none) (ha : DA X C (e :: es) al mr) (hb : bootBuiltins x = some (.type T) := by decide +kernel) (hg : Gl X x := by rfl) (hn : x ≠ "__name__" := by decide +kernel) (hdb : (x == ("__debug__" : Str)) = false := by decide +kernel)
    (he : starEach (e :: es) X.env = (false, eval e X.env) :: starEach es X.env := by rfl) (hpl : (backTo pos (starEach es X.env)).any (·.1) = false := by rfl) : DE X C (.Call (.Name x p) (e :: es) [] pos) al (eCB f mr) :=
  ⟨PE_imp (pe_callTy hc hg hm hb ha.run hn hdb he hpl) (cb_imp hv)⟩
theorem df_callB (hc : CallR X (.builtin id) r) (hv : VNF X.prog X.w X.K X.mg wd r f) (hm : X.mg x = none) (ha : DA X C (e :: es) al mr) (hb : bootBuiltins x = some (.builtin id) := by decide +kernel) (hg : Gl X x := by rfl) (hn : x ≠ "__name__" := by decide +kernel) (hdb : (x == ("__debug__" : Str)) = false := by decide +kernel)
    (he : starEach (e :: es) X.env = (false, eval e X.env) :: starEach es X.env := by rfl) (hpl : (backTo pos (starEach es X.env)).any (·.1) = false := by rfl) : DF X C (.Call (.Name x p) (e :: es) [] pos) al (eCB f mr) :=
  ⟨PE_imp (pe_callB hc hg hm hb ha.run hn hdb he hpl) (cbf_imp hv)⟩
theorem df_callT (hc : CallR X (.type T) r) (hv : VNF X.prog X.w X.K X.mg wd r f) (hm : X.mg x = none) (ha : DA X C (e :: es) al mr) (hb : bootBuiltins x = some (.type T) := by decide +kernel) (hg : Gl X x := by rfl) (hn : x ≠ "__name__" := by decide +kernel) (hdb : (x == ("__debug__" : Str)) = false := by decide +kernel)
    (he : starEach (e :: es) X.env = (false, eval e X.env) :: starEach es X.env := by rfl) (hpl : (backTo pos (starEach es X.env)).any (·.1) = false := by rfl) : DF X C (.Call (.Name x p) (e :: es) [] pos) al (eCB f mr) :=
  ⟨PE_imp (pe_callTy hc hg hm hb ha.run hn hdb he hpl) (cbf_imp hv)⟩
theorem df_callT0 (hc : CallR X (.type T) r) (hv : VNF X.prog X.w X.K X.mg wd r f) (hm : X.mg x = none) (hb : bootBuiltins x = some (.type T) := by decide +kernel) (hg : Gl X x := by rfl) (hn : x ≠ "__name__" := by decide +kernel) (hdb : (x == ("__debug__" : Str)) = false := by decide +kernel) :
    DF X C (.Call (.Name x p) [] [] pos) [] (eCB f aNil) :=
  ⟨PE_imp (pe_callTy0 hc hg hm hb hn hdb) fun σ H Q h => by
    have z := cbf_imp (mr := aNil) (al := []) hv σ H Q h
    obtain ⟨env, s, R, q⟩ := z
    exact q [] H Mv.refl R.rel .nil⟩
end
end DD
namespace DD
open PySem PySem.Spec PyProof.Rows L2

/-! ### equality of data -/
mutual
def D.isPy : D → Bool
  | .non => true
  | .bl _ => true
  | .int _ => true
  | .str _ => true
  | .opq _ => false
  | .tup l => arePy l
  | .lst l => arePy l
  | .dct _ => false
  | .st _ => false
def arePy : List D → Bool
  | [] => true
  | d :: ds => d.isPy && arePy ds
end
mutual
def D.py : D → PyData
  | .non => .none
  | .bl b => .bool b
  | .int i => .int i
  | .str x => .str x
  | .opq _ => .none
  | .tup l => .tuple (pys l)
  | .lst l => .list (pys l)
  | .dct _ => .none
  | .st _ => .none
def pys : List D → List PyData
  | [] => []
  | d :: ds => d.py :: pys ds
end
mutual
def D.dep : D → Nat
  | .tup l => deps l + 1
  | .lst l => deps l + 1
  | .non => 0
  | .bl _ => 0
  | .int _ => 0
  | .str _ => 0
  | .opq _ => 0
  | .dct _ => 0
  | .st _ => 0
def deps : List D → Nat
  | [] => 0
  | d :: ds => max d.dep (deps ds)
end
mutual
/-- Python's == -/
def D.eqv : D → D → Bool
  | .non, e => match e with
    | .non => true
    | _ => false
  | .bl a, e => match e with
    | .bl b => a == b
    | .int j => (if a then 1 else 0) == j
    | _ => false
  | .int i, e => match e with
    | .bl b => i == (if b then 1 else 0)
    | .int j => i == j
    | _ => false
  | .str x, e => match e with
    | .str y => x == y
    | _ => false
  | .opq _, _ => false
  | .tup l, e => match e with
    | .tup m => eqvs l m
    | _ => false
  | .lst l, e => match e with
    | .lst m => eqvs l m
    | _ => false
  | .dct _, _ => false
  | .st _, _ => false
def eqvs : List D → List D → Bool
  | [], m => match m with
    | [] => true
    | _ => false
  | d :: ds, m => match m with
    | e :: es => d.eqv e && eqvs ds es
    | _ => false
end
mutual
theorem eqv_py : ∀ (d e : D), d.isPy = true → e.isPy = true → PyData.eqv d.py e.py = d.eqv e
  | .non, e, _, he => by cases e <;> simp_all [D.py, D.eqv, PyData.eqv, D.isPy]
  | .bl _, e, _, he => by cases e <;> simp_all [D.py, D.eqv, PyData.eqv, D.isPy]
  | .int _, e, _, he => by cases e <;> simp_all [D.py, D.eqv, PyData.eqv, D.isPy]
  | .str _, e, _, he => by cases e <;> simp_all [D.py, D.eqv, PyData.eqv, D.isPy]
  | .opq _, _, h, _ => by simp [D.isPy] at h
  | .tup l, e, h, he => by
    cases e with
    | tup m =>
      simp only [D.py, D.eqv, PyData.eqv]
      exact eqvs_py l m (by simpa only [D.isPy] using h) (by simpa only [D.isPy] using he)
    | _ => simp_all [D.py, D.eqv, PyData.eqv, D.isPy]
  | .lst l, e, h, he => by
    cases e with
    | lst m =>
      simp only [D.py, D.eqv, PyData.eqv]
      exact eqvs_py l m (by simpa only [D.isPy] using h) (by simpa only [D.isPy] using he)
    | _ => simp_all [D.py, D.eqv, PyData.eqv, D.isPy]
  | .dct _, _, h, _ => by simp [D.isPy] at h
  | .st _, _, h, _ => by simp [D.isPy] at h
theorem eqvs_py : ∀ (l m : List D), arePy l = true → arePy m = true → PyData.eqvAll (pys l) (pys m) = eqvs l m
  | [], m, _, _ => by cases m <;> simp [pys, eqvs, PyData.eqvAll]
  | d :: ds, m, h, hm => by
    cases m with
    | nil => simp [pys, eqvs, PyData.eqvAll]
    | cons e es =>
      simp only [arePy, Bool.and_eq_true] at h hm
      simp only [pys, eqvs, PyData.eqvAll]
      rw [eqv_py d e h.1 hm.1, eqvs_py ds es h.2 hm.2]
end
mutual
theorem dep_py : ∀ d : D, d.py.depth = d.dep
  | .non => by simp [D.py, D.dep, PyData.depth]
  | .bl _ => by simp [D.py, D.dep, PyData.depth]
  | .int _ => by simp [D.py, D.dep, PyData.depth]
  | .str _ => by simp [D.py, D.dep, PyData.depth]
  | .opq _ => by simp [D.py, D.dep, PyData.depth]
  | .dct _ => by simp [D.py, D.dep, PyData.depth]
  | .st _ => by simp [D.py, D.dep, PyData.depth]
  | .tup l => by simp [D.py, D.dep, PyData.depth, deps_py l]
  | .lst l => by simp [D.py, D.dep, PyData.depth, deps_py l]
theorem deps_py : ∀ l : List D, PyData.depthAll (pys l) = deps l
  | [] => by simp [pys, deps, PyData.depthAll]
  | d :: ds => by simp [pys, deps, PyData.depthAll, dep_py d, deps_py ds]
end
section
variable {K : PySem.W.Frag} {W : Set'} {H : Hp}
mutual
theorem rep_dp : ∀ (d : D) (v : V), d.isPy = true → Rep K W H d v → Dp K H v d.py ∧ d.py.canLay0 = true
  | .non, v, _, h => by simp only [Rep] at h; subst h; simp only [D.py, PyData.canLay0, and_true]; exact .non
  | .bl b, v, _, h => by simp only [Rep] at h; subst h; simp only [D.py, PyData.canLay0, and_true]; exact .bl b
  | .int b, v, _, h => by simp only [Rep] at h; subst h; simp only [D.py, PyData.canLay0, and_true]; exact .int b
  | .str b, v, _, h => by
    simp only [Rep] at h
    obtain ⟨h, k⟩ := h
    subst h
    simp only [D.py, PyData.canLay0]
    exact ⟨.str b, k.1⟩
  | .opq _, _, hh, _ => by simp [D.isPy] at hh
  | .dct _, _, hh, _ => by simp [D.isPy] at hh
  | .st _, _, hh, _ => by simp [D.isPy] at hh
  | .tup l, v, hh, h => by
    simp only [Rep] at h
    obtain ⟨a, xs, e, t, r⟩ := h
    subst e
    obtain ⟨r1, r2⟩ := reps_dp l xs (by simpa only [D.isPy] using hh) r
    simp only [D.py, PyData.canLay0]
    exact ⟨.tup t.seq r1, r2⟩
  | .lst l, v, hh, h => by
    simp only [Rep] at h
    obtain ⟨a, xs, e, t, r⟩ := h
    subst e
    obtain ⟨r1, r2⟩ := reps_dp l xs (by simpa only [D.isPy] using hh) r
    simp only [D.py, PyData.canLay0]
    exact ⟨.lst t.seq r1, r2⟩
theorem reps_dp : ∀ (l : List D) (vs : List V), arePy l = true → Reps K W H l vs → DpAll K H vs (pys l) ∧ PyData.canLayAll0 (pys l) = true
  | [], vs, _, h => by
    simp only [Reps] at h
    subst h
    simp only [pys, PyData.canLayAll0, and_true]
    exact .nil
  | d :: ds, vs, hh, h => by
    simp only [Reps] at h
    obtain ⟨v, r, e, h1, h2⟩ := h
    subst e
    simp only [arePy, Bool.and_eq_true] at hh
    obtain ⟨a1, a2⟩ := rep_dp d v hh.1 h1
    obtain ⟨b1, b2⟩ := reps_dp ds r hh.2 h2
    simp only [pys, PyData.canLayAll0, Bool.and_eq_true]
    exact ⟨.cons a1 b1, a2, b2⟩
end
/-- data that may be compared -/
def D.cmp (d : D) : Bool := d.isPy && decide (d.dep ≤ 60)
theorem rep_shaped {d : D} {v : V} (c : d.cmp = true) (h : Rep K W H d v) : Dp K H v d.py ∧ SeqAt.shaped d.py = true := by
  unfold D.cmp at c
  simp only [Bool.and_eq_true, decide_eq_true_eq] at c
  obtain ⟨a, b⟩ := rep_dp d v c.1 h
  refine ⟨a, ?_⟩
  unfold SeqAt.shaped
  rw [b, dep_py]
  simp only [Bool.true_and, decide_eq_true_eq]
  omega
end
def dEq (d e : D) : Option D := if d.cmp && e.cmp then some (.bl (d.eqv e)) else none
def dNe (d e : D) : Option D := if d.cmp && e.cmp then some (.bl (!d.eqv e)) else none
section
variable {S : Type} {X : Cx} {w : Wd S}
theorem v2_eq : V2 X.K w (rEqD X.K) dEq := by
  intro W H s x y d e z Q r hW hf h1 h2 h k
  unfold dEq at h
  split at h
  · rename_i c
    cases h
    simp only [Bool.and_eq_true] at c
    obtain ⟨a1, a2⟩ := rep_shaped c.1 h1
    obtain ⟨b1, b2⟩ := rep_shaped c.2 h2
    have c1 := c.1
    have c2 := c.2
    unfold D.cmp at c1 c2
    simp only [Bool.and_eq_true] at c1 c2
    refine ⟨d.py, e.py, a1, b1, a2, b2, ?_⟩
    rw [eqv_py d e c1.1 c2.1]
    exact k _ H Mv.refl r (by simp only [Rep])
  · cases h
theorem v2_ne : V2 X.K w (rNeD X.K) dNe := by
  intro W H s x y d e z Q r hW hf h1 h2 h k
  unfold dNe at h
  split at h
  · rename_i c
    cases h
    simp only [Bool.and_eq_true] at c
    obtain ⟨a1, a2⟩ := rep_shaped c.1 h1
    obtain ⟨b1, b2⟩ := rep_shaped c.2 h2
    have c1 := c.1
    have c2 := c.2
    unfold D.cmp at c1 c2
    simp only [Bool.and_eq_true] at c1 c2
    refine ⟨d.py, e.py, a1, b1, a2, b2, ?_⟩
    rw [eqv_py d e c1.1 c2.1]
    exact k _ H Mv.refl r (by simp only [Rep])
  · cases h

/-! ### ints -/
def dI2 (f : Int → Int → Option D) (d e : D) : Option D := match d, e with
  | .int i, .int j => f i j
  | _, _ => none
theorem dI2_some {f : Int → Int → Option D} {d e z : D} (h : dI2 f d e = some z) : ∃ i j, d = .int i ∧ e = .int j ∧ f i j = some z := by
  unfold dI2 at h
  split at h
  · exact ⟨_, _, rfl, rfl, h⟩
  · cases h
theorem v2_int {g : Int → Int → V} {f : Int → Int → Option D} {Cn : Int → Int → Prop} (hc : ∀ i j z, f i j = some z → Cn i j) (hg : ∀ {W H} i j z, f i j = some z → Rep X.K W H z (g i j)) : V2 X.K w (rI Cn g) (dI2 f) := by
  intro W H s x y d e z Q r hW hf h1 h2 h k
  obtain ⟨i, j, rfl, rfl, h⟩ := dI2_some h
  simp only [Rep] at h1 h2
  subst h1
  subst h2
  exact ⟨i, j, rfl, rfl, hc i j z h, k _ H Mv.refl r (hg i j z h)⟩
theorem v2_int0 {g : Int → Int → V} {f : Int → Int → Option D} (hg : ∀ {W H} i j z, f i j = some z → Rep X.K W H z (g i j)) : V2 X.K w (rI0 g) (dI2 f) := by
  intro W H s x y d e z Q r hW hf h1 h2 h k
  obtain ⟨i, j, rfl, rfl, h⟩ := dI2_some h
  simp only [Rep] at h1 h2
  subst h1
  subst h2
  exact ⟨i, j, rfl, rfl, k _ H Mv.refl r (hg i j z h)⟩
def dSub : D → D → Option D := dI2 fun i j => some (.int (i - j))
def dLt : D → D → Option D := dI2 fun i j => some (.bl (decide (i < j)))
def dLe : D → D → Option D := dI2 fun i j => some (.bl (decide (i ≤ j)))
def dGt : D → D → Option D := dI2 fun i j => some (.bl (decide (j < i)))
def dGe : D → D → Option D := dI2 fun i j => some (.bl (decide (j ≤ i)))
def dMod : D → D → Option D := dI2 fun i j => if 0 < j then some (.int (i % j)) else none
def dDiv : D → D → Option D := dI2 fun i j => if 0 < j ∧ j.natAbs < 1073741824 then some (.int (i / j)) else none
def dPow : D → D → Option D := dI2 fun i j => if 0 ≤ j ∧ j.natAbs ≤ 1000000 ∧ i.natAbs < 2 ^ 64 then some (.int (i ^ j.toNat)) else none
def dMulI (i j : Int) : Option D := if i.natAbs < 2 ^ 64 ∨ j.natAbs < 2 ^ 64 then some (.int (i * j)) else none
def dMul : D → D → Option D := dI2 dMulI
theorem v2_sub : V2 X.K w (rI0 fun i j => .int (i - j)) dSub := v2_int0 fun i j z h => by cases h; simp only [Rep]
theorem v2_lt : V2 X.K w (rI0 fun i j => .bl (decide (i < j))) dLt := v2_int0 fun i j z h => by cases h; simp only [Rep]
theorem v2_le : V2 X.K w (rI0 fun i j => .bl (decide (i ≤ j))) dLe := v2_int0 fun i j z h => by cases h; simp only [Rep]
theorem v2_gt : V2 X.K w (rI0 fun i j => .bl (decide (j < i))) dGt := v2_int0 fun i j z h => by cases h; simp only [Rep]
theorem v2_ge : V2 X.K w (rI0 fun i j => .bl (decide (j ≤ i))) dGe := v2_int0 fun i j z h => by cases h; simp only [Rep]
theorem ite_some {c : Prop} [Decidable c] {a z : D} (h : (if c then some a else none) = some z) : c ∧ a = z := by
  split at h
  · rename_i q
    exact ⟨q, Option.some.inj h⟩
  · cases h
theorem v2_mod : V2 X.K w (rI (fun _ j => 0 < j) fun i j => .int (i % j)) dMod := v2_int (fun i j z h => (ite_some h).1) fun i j z h => by rw [← (ite_some h).2]; simp only [Rep]
theorem v2_div : V2 X.K w (rI CDiv fun i j => .int (i / j)) dDiv := v2_int (fun i j z h => by have := (ite_some h).1; exact ⟨this.1, by omega⟩) fun i j z h => by rw [← (ite_some h).2]; simp only [Rep]
theorem v2_pow : V2 X.K w (rI CPow fun i j => .int (i ^ j.toNat)) dPow := v2_int (fun i j z h => by have := (ite_some h).1; exact ⟨this.1, by omega, this.2.2⟩) fun i j z h => by rw [← (ite_some h).2]; simp only [Rep]
theorem v2_mulI : V2 X.K w (rI CMul fun i j => .int (i * j)) dMul := v2_int (fun i j z h => by have := (ite_some h).1; exact this.elim (fun z => .inl (by omega)) fun z => .inr (by omega)) fun i j z h => by rw [← (ite_some h).2]; simp only [Rep]
def dNeg : D → Option D
  | .int i => some (.int (-i))
  | _ => none
theorem v1_neg : V1 X.K w (rU fun i => .int (-i)) dNeg := by
  intro W H s x d z Q r hW hf h1 h k
  cases d with
  | int i =>
    cases h
    simp only [Rep] at h1
    subst h1
    exact ⟨i, rfl, k _ H Mv.refl r (by simp only [Rep])⟩
  | _ => cases h

/-! ### + of all kinds -/
theorem okS_append {x y : Str} (hx : okS x) (hy : okS y) (h : x.length + y.length ≤ 4096) : okS (x ++ y) := by
  obtain ⟨a, b⟩ := hx
  obtain ⟨c, d⟩ := hy
  refine ⟨?_, ?_⟩
  · unfold PyData.strOk at *
    show (x.cps ++ y.cps).all _ = true
    rw [Array.all_append, a, c]
    rfl
  · show (x.cps ++ y.cps).size ≤ 4096
    rw [Array.size_append]
    exact h
def dAdd (d e : D) : Option D := match d, e with
  | .int i, .int j => some (.int (i + j))
  | .str x, .str y => if x.length + y.length ≤ 4096 then some (.str (x ++ y)) else none
  | .tup l, .tup m => if l.length + m.length ≤ 16777216 then some (.tup (l ++ m)) else none
  | .lst l, .lst m => if l.length + m.length ≤ 16777216 then some (.lst (l ++ m)) else none
  | _, _ => none
def rAddA (K : PySem.W.Frag) : R2 := fun x y H Q => (∃ i j, x = .int i ∧ y = .int j ∧ Q (.int (i + j)) H) ∨ (∃ i j, x = .str i ∧ y = .str j ∧ i.length + j.length ≤ sizeLine ∧ Q (.str (i ++ j)) H) ∨ rCatZ K x y H Q ∨ rCat x y H Q
theorem op_addA : OpR X (binaryOp .Add) (rAddA X.K) := op_add.or (op_add_str.or (op_catZ.or op_cat))
theorem reps_nil_iff {K : PySem.W.Frag} {W : Set'} {H : Hp} {ds : List D} {vs : List V} (h : Reps K W H ds vs) : vs = [] ↔ ds = [] := by
  have := h.length
  constructor
  · rintro rfl
    exact List.length_eq_zero_iff.mp this.symm
  · rintro rfl
    exact List.length_eq_zero_iff.mp this
theorem Wd.laidX (w : Wd S) {s : S} {H : Hp} {p : Addr} {o : HO} {W : Set'} (r : w.rel s H) (n : H p = none) (hf : ∀ a, w.foot a → W a) : Mv w.foot H w.foot (upd H p o) ∧ w.rel s (upd H p o) ∧ Mv W H (fun a => W a ∨ a = p) (upd H p o) := by
  obtain ⟨a, b⟩ := w.laid (o := o) r n
  exact ⟨a, b, Mv.new n⟩
theorem v2_add : V2 X.K w (rAddA X.K) dAdd := by
  intro W H s x y d e z Q r hW hf h1 h2 h k
  unfold dAdd at h
  split at h
  · cases h
    simp only [Rep] at h1 h2
    subst h1
    subst h2
    exact .inl ⟨_, _, rfl, rfl, k _ H Mv.refl r (by simp only [Rep])⟩
  · obtain ⟨c, e⟩ := ite_some h
    subst e
    simp only [Rep] at h1 h2
    obtain ⟨rfl, o1⟩ := h1
    obtain ⟨rfl, o2⟩ := h2
    exact .inr (.inl ⟨_, _, rfl, rfl, small4096 c, k _ H Mv.refl r (by simp only [Rep, true_and]; exact okS_append o1 o2 c)⟩)
  · rename_i l m
    obtain ⟨c, e⟩ := ite_some h
    subst e
    simp only [Rep] at h1 h2
    obtain ⟨a, xs, rfl, t1, r1⟩ := h1
    obtain ⟨b, ys, rfl, t2, r2⟩ := h2
    refine .inr (.inr (.inl ⟨a, b, xs, ys, rfl, rfl, t1.seq, t2.seq, ?_, fun e => ?_, fun e2 => ?_, fun p o hp hd => ?_⟩))
    · rw [r1.length, r2.length, sizeLine_eq]
      exact c
    · have := (reps_nil_iff r1).mp e
      subst this
      exact k _ H Mv.refl r (by simp only [Rep, List.nil_append]; exact ⟨b, ys, rfl, t2, r2⟩)
    · have := (reps_nil_iff r2).mp e2
      subst this
      exact k _ H Mv.refl r (by simp only [Rep, List.append_nil]; exact ⟨a, xs, rfl, t1, r1⟩)
    · obtain ⟨m1, m2, m3⟩ := w.laidX (o := .frz o (.tup (xs ++ ys))) r hp hf
      refine k _ _ m1 m2 ?_
      simp only [Rep]
      exact ⟨p, xs ++ ys, rfl, .at hd, (r1.append r2).mv (m3.thin fun a z => .inl z)⟩
  · rename_i l m
    obtain ⟨c, e⟩ := ite_some h
    subst e
    simp only [Rep] at h1 h2
    obtain ⟨a, xs, rfl, t1, r1⟩ := h1
    obtain ⟨b, ys, rfl, t2, r2⟩ := h2
    refine .inr (.inr (.inr ⟨a, b, xs, ys, rfl, rfl, t1.1, t2.1, ?_, fun p hp => ?_⟩))
    · rw [r1.length, r2.length, sizeLine_eq]
      exact c
    · obtain ⟨m1, m2, m3⟩ := w.laidX (o := .lst (xs ++ ys)) r hp hf
      refine k _ _ m1 m2 ?_
      simp only [Rep]
      exact ⟨p, xs ++ ys, rfl, ⟨upd_same, fun z => hW p z hp⟩, (r1.append r2).mv (m3.thin fun a z => .inl z)⟩
  · cases h

/-! ### subscripts -/
def keyOf : D → Option Key
  | .int i => some (.inl i)
  | .str x => some (.inr x)
  | _ => none
def dLook (l : List (Key × D)) (k : Key) : Option D := (l.find? fun p => decide (p.1 = k)).map (·.2)
def dIx (d e : D) : Option D := match d with
  | .tup l => (match e with
    | .int i => atI l i
    | _ => none)
  | .lst l => (match e with
    | .int i => atI l i
    | _ => none)
  | .str x => (match e with
    | .int i => (atI x.cps.toList i).map fun c => .str ⟨#[c]⟩
    | _ => none)
  | .dct l => (keyOf e).bind (dLook l)
  | _ => none
theorem reps_at {K : PySem.W.Frag} {W : Set'} {H : Hp} {ds : List D} {vs : List V} {i : Int} {z : D} (h : Reps K W H ds vs) (e : atI ds i = some z) : ∃ v, atI vs i = some v ∧ Rep K W H z v := by
  unfold atI at *
  rw [h.length]
  cases q : ixN ds.length i with
  | none => rw [q] at e; cases e
  | some j =>
    rw [q] at e
    obtain ⟨v, ev, hv⟩ := h.get (show ds[j]? = some z from e)
    exact ⟨v, ev, hv⟩
theorem repks_look {K : PySem.W.Frag} {W : Set'} {H : Hp} (k : Key) : ∀ {ds : List (Key × D)} {vs : List (Key × V)}, RepKs K W H ds vs → (dLook ds k = none ∧ valV vs k = none) ∨ ∃ z v, dLook ds k = some z ∧ valV vs k = some v ∧ Rep K W H z v
  | [], vs, h => by simp only [RepKs] at h; subst h; exact .inl ⟨rfl, rfl⟩
  | (q, d) :: ds, vs, h => by
    simp only [RepKs] at h
    obtain ⟨v, r, rfl, h1, h2⟩ := h
    by_cases e : q = k
    · subst e
      refine .inr ⟨d, v, ?_, valV_pos rfl, h1⟩
      simp [dLook, List.find?_cons]
    · have e1 : dLook ((q, d) :: ds) k = dLook ds k := by simp [dLook, List.find?_cons, e]
      rw [e1, valV_neg (p := (q, v)) e]
      exact repks_look k h2
theorem rep_key {K : PySem.W.Frag} {W : Set'} {H : Hp} {d : D} {v : V} {k : Key} (e : keyOf d = some k) (h : Rep K W H d v) : v = kV k := by
  cases d with
  | int i => cases e; simp only [Rep] at h; exact h
  | str x => cases e; simp only [Rep] at h; exact h.1
  | _ => cases e
def rIxD : R2 := fun x y H Q => ∃ (a : Addr) (kvs : List (Key × V)) (k : Key) (v : V), x = .ref a ∧ y = kV k ∧ H a = some (.dK kvs) ∧ valV kvs k = some v ∧ Q v H
theorem ix_dict (hu : X.A.units + 1 < cLine) : IxR X rIxD := by
  intro value slice pins s σ H x y v u Q I rx ry h hs
  obtain ⟨a, kvs, k, z, rfl, rfl, hd, hk, q⟩ := h
  cases rx
  have g : DGet H a (kV k) (some z) := by rw [← hk]; exact DGet.k hd
  exact tail_any (dict_typeIs I g) PySem.F.slot_dict_getitem.lookup (d_getItem hu I g ry fun w' s3 I3 rw' => ⟨z, H, I3, rw', q⟩) hs
theorem ix_all (hu : X.A.units + 1 < cLine) : IxR X (fun x y H Q => rIx X.K x y H Q ∨ rIxD x y H Q) := ix_seq.or (ix_dict hu)
theorem okS_one {x : Str} {i : Int} {c : Nat} (h : okS x) (e : atI x.cps.toList i = some c) : okS ⟨#[c]⟩ := by
  obtain ⟨j, _, hj, _⟩ := atI_get e
  have hm : c ∈ x.cps.toList := List.mem_of_getElem? hj
  refine ⟨?_, by show 1 ≤ 4096; decide⟩
  have h1 := h.1
  unfold PyData.strOk at *
  rw [← Array.all_toList, List.all_eq_true] at h1
  have := h1 c hm
  simpa using this
theorem v2_ix : V2 X.K w (fun x y H Q => rIx X.K x y H Q ∨ rIxD x y H Q) dIx := by
  intro W H s x y d e z Q r hW hf h1 h2 h k
  unfold dIx at h
  split at h
  · split at h
    · simp only [Rep] at h1 h2
      subst h2
      obtain ⟨a, xs, rfl, t, r1⟩ := h1
      obtain ⟨v, ev, hv⟩ := reps_at r1 h
      exact .inl (.inr (.inl ⟨a, xs, _, v, rfl, rfl, t.seq, ev, k _ H Mv.refl r hv⟩))
    · cases h
  · split at h
    · simp only [Rep] at h1 h2
      subst h2
      obtain ⟨a, xs, rfl, t, r1⟩ := h1
      obtain ⟨v, ev, hv⟩ := reps_at r1 h
      exact .inl (.inl ⟨a, xs, _, v, rfl, rfl, t.seq, ev, k _ H Mv.refl r hv⟩)
    · cases h
  · split at h
    · simp only [Rep] at h1 h2
      subst h2
      obtain ⟨rfl, o⟩ := h1
      obtain ⟨c, ec, rfl⟩ := Option.map_eq_some_iff.mp h
      exact .inl (.inr (.inr ⟨_, _, c, rfl, rfl, small4096 o.2, ec, k _ H Mv.refl r (by simp only [Rep, true_and]; exact okS_one o ec)⟩))
    · cases h
  · obtain ⟨key, ek, h⟩ := Option.bind_eq_some_iff.mp h
    simp only [Rep] at h1
    obtain ⟨a, kvs, rfl, t, r1⟩ := h1
    rcases repks_look key r1 with ⟨q, _⟩ | ⟨z', v, q1, q2, hv⟩
    · rw [q] at h; cases h
    · rw [q1] at h
      cases h
      exact .inr ⟨a, kvs, key, v, rfl, rep_key ek h2, t.1, q2, k _ H Mv.refl r hv⟩
  · cases h
end
end DD
namespace DD
open PySem PySem.Spec PyProof.Rows L2

/-! ### in -/
def dHas (d : D) (l : List D) : Bool := l.any fun z => z.eqv d
def chOf (x : Str) : Option Nat := if x.cps.size = 1 then x.cps[0]? else none
def dInB (d e : D) : Option Bool := match e with
  | .tup l => if d.cmp && (D.tup l).cmp then some (dHas d l) else none
  | .lst l => if d.cmp && (D.lst l).cmp then some (dHas d l) else none
  | .dct l => (keyOf d).map fun k => (dLook l k).isSome
  | .str y => (match d with
    | .str x => (chOf x).map fun c => decide (c ∈ y.cps.toList)
    | _ => none)
  | _ => none
def dIn (d e : D) : Option D := (dInB d e).map .bl
def dNotIn (d e : D) : Option D := (dInB d e).map fun b => .bl (!b)
theorem any_py (d : D) (hd : d.isPy = true) : ∀ l : List D, arePy l = true → ((pys l).any fun z => PyData.eqv z d.py) = dHas d l
  | [], _ => rfl
  | x :: l, h => by
    simp only [arePy, Bool.and_eq_true] at h
    simp only [pys, List.any_cons, dHas]
    rw [eqv_py x d h.1 hd, any_py d hd l h.2]
    rfl
section
variable {S : Type} {X : Cx} {w : Wd S}
def rInP (K : PySem.W.Frag) (neg : Bool) : R2 := fun x y H Q => ∃ (d : PyData) (ds : List PyData), Dp K H x d ∧ (Dp K H y (.list ds) ∨ Dp K H y (.tuple ds)) ∧ SeqAt.shaped d = true ∧ (SeqAt.shaped (.list ds) = true) ∧
  Q (.bl (if neg = true then !(ds.any fun z => PyData.eqv z d) else ds.any fun z => PyData.eqv z d)) H
theorem op_inP (hu : X.A.units + 65 < cLine) : OpR X (compareOp .In) (rInP X.K false) := by
  intro pins s σ H x y v u Q I rx ry h
  obtain ⟨d, ds, hd, he, sd, se, q⟩ := h
  obtain ⟨as, r1⟩ := Dp.reads I d x v hd rx
  have lay : PyData.canLayAll0 ds = true := SeqAt.canLay_of_shaped se
  have lyd := SeqAt.canLay_of_shaped sd
  have hroom : X.A.units + 1 + min (PyData.depthAll ds) d.depth < cLine := by
    have h2 := SeqAt.depth_of_shaped sd
    have h1 : min (PyData.depthAll ds) d.depth ≤ d.depth := Nat.min_le_right _ _
    omega
  rcases he with he | he
  · obtain ⟨bs, r2⟩ := Dp.reads I (.list ds) y u he ry
    exact SeqAt.in_list_reads r2 r1 lay lyd hroom ⟨.bl _, H, I, rfl, q⟩
  · obtain ⟨bs, r2⟩ := Dp.reads I (.tuple ds) y u he ry
    exact SeqAt.in_tuple_reads r2 r1 lay lyd hroom ⟨.bl _, H, I, rfl, q⟩
theorem op_notInP (hu : X.A.units + 65 < cLine) : OpR X (compareOp .NotIn) (rInP X.K true) := by
  intro pins s σ H x y v u Q I rx ry h
  obtain ⟨d, ds, hd, he, sd, se, q⟩ := h
  obtain ⟨as, r1⟩ := Dp.reads I d x v hd rx
  have lay : PyData.canLayAll0 ds = true := SeqAt.canLay_of_shaped se
  have lyd := SeqAt.canLay_of_shaped sd
  have hroom : X.A.units + 1 + min (PyData.depthAll ds) d.depth < cLine := by
    have h2 := SeqAt.depth_of_shaped sd
    have h1 : min (PyData.depthAll ds) d.depth ≤ d.depth := Nat.min_le_right _ _
    omega
  rcases he with he | he
  · obtain ⟨bs, r2⟩ := Dp.reads I (.list ds) y u he ry
    exact SeqAt.notIn_list_reads r2 r1 lay lyd hroom ⟨.bl _, H, I, rfl, q⟩
  · obtain ⟨bs, r2⟩ := Dp.reads I (.tuple ds) y u he ry
    exact SeqAt.notIn_tuple_reads r2 r1 lay lyd hroom ⟨.bl _, H, I, rfl, q⟩
def rInDic (neg : Bool) : R2 := fun x y H Q => ∃ (a : Addr) (kvs : List (Key × V)) (k : Key), y = .ref a ∧ x = kV k ∧ H a = some (.dK kvs) ∧ Q (.bl (if neg = true then !(valV kvs k).isSome else (valV kvs k).isSome)) H
theorem op_inDic (hu : X.A.units + 1 < cLine) : OpR X (compareOp .In) (rInDic false) := by
  intro pins s σ H x y v u Q I rx ry h
  obtain ⟨a, kvs, k, rfl, rfl, hd, q⟩ := h
  cases ry
  exact d_in hu I (DGet.k hd) rx fun s3 I3 => ⟨.bl _, H, I3, rfl, q⟩
theorem op_notInDic (hu : X.A.units + 1 < cLine) : OpR X (compareOp .NotIn) (rInDic true) := by
  intro pins s σ H x y v u Q I rx ry h
  obtain ⟨a, kvs, k, rfl, rfl, hd, q⟩ := h
  cases ry
  exact d_notIn hu I (DGet.k hd) rx fun s3 I3 => ⟨.bl _, H, I3, rfl, q⟩
def rInS (neg : Bool) : R2 := fun x y H Q => ∃ (c : Nat) (z : Str), x = .str ⟨#[c]⟩ ∧ y = .str z ∧ Q (.bl (if neg = true then !decide (c ∈ z.cps.toList) else decide (c ∈ z.cps.toList))) H
def rInA (K : PySem.W.Frag) (neg : Bool) : R2 := fun x y H Q => rInP K neg x y H Q ∨ rInDic neg x y H Q ∨ rInS neg x y H Q
theorem op_in (hu : X.A.units + 65 < cLine) : OpR X (compareOp .In) (rInA X.K false) := (op_inP hu).or ((op_inDic (by omega)).or fun pins s σ H x y v u Q I rx ry ⟨c, z, e1, e2, q⟩ => op_in_sign pins s σ H x y v u Q I rx ry ⟨c, z, e1, e2, q⟩)
theorem op_notIn (hu : X.A.units + 65 < cLine) : OpR X (compareOp .NotIn) (rInA X.K true) := (op_notInP hu).or ((op_notInDic (by omega)).or fun pins s σ H x y v u Q I rx ry ⟨c, z, e1, e2, q⟩ => op_notIn_sign pins s σ H x y v u Q I rx ry ⟨c, z, e1, e2, q⟩)
theorem chOf_some {x : Str} {c : Nat} (h : chOf x = some c) : x = ⟨#[c]⟩ := by
  unfold chOf at h
  split at h
  · rename_i e
    obtain ⟨x⟩ := x
    obtain ⟨l⟩ := x
    match l, e, h with
    | [a], _, h => simp at h; subst h; rfl
  · cases h
theorem cmp_seq {l : List D} (h : (D.tup l).cmp = true ∨ (D.lst l).cmp = true) : arePy l = true ∧ deps l + 1 ≤ 60 := by
  unfold D.cmp at h
  simpa [D.isPy, D.dep] using h
theorem in_core {W : Set'} {H : Hp} {s : S} {x y : V} {d e : D} {b : Bool} {Q : VK} {neg : Bool} (r : w.rel s H) (h1 : Rep X.K W H d x) (h2 : Rep X.K W H e y) (h : dInB d e = some b)
    (k : ∀ v H', Mv w.foot H w.foot H' → w.rel s H' → Rep X.K W H' (.bl (if neg = true then !b else b)) v → Q v H') : rInA X.K neg x y H Q := by
  unfold dInB at h
  have fin : Q (.bl (if neg = true then !b else b)) H := k _ H Mv.refl r (by simp only [Rep])
  have seq : ∀ (l : List D) (a : Addr) (xs : List V), d.cmp = true → arePy l = true → deps l + 1 ≤ 60 → Reps X.K W H l xs → b = dHas d l → (Dp X.K H y (.list (pys l)) ∨ Dp X.K H y (.tuple (pys l))) → rInA X.K neg x y H Q := by
    intro l a xs c c1 c2 r1 eb hy
    obtain ⟨a1, a2⟩ := rep_shaped c h1
    obtain ⟨b1, b2⟩ := reps_dp l xs c1 r1
    have c' := c
    unfold D.cmp at c'
    simp only [Bool.and_eq_true] at c'
    refine .inl ⟨d.py, pys l, a1, hy, a2, ?_, ?_⟩
    · unfold SeqAt.shaped
      simp only [PyData.canLay0, PyData.depth, deps_py, Bool.and_eq_true, decide_eq_true_eq]
      exact ⟨b2, by omega⟩
    · rw [any_py d c'.1 l c1, ← eb]
      exact fin
  split at h
  · rename_i l
    split at h
    · rename_i c
      cases h
      simp only [Bool.and_eq_true] at c
      simp only [Rep] at h2
      obtain ⟨a, xs, rfl, t, r1⟩ := h2
      obtain ⟨c1, c2⟩ := cmp_seq (.inl c.2)
      exact seq l a xs c.1 c1 c2 r1 rfl (.inr (.tup t.seq (reps_dp l xs c1 r1).1))
    · cases h
  · rename_i l
    split at h
    · rename_i c
      cases h
      simp only [Bool.and_eq_true] at c
      simp only [Rep] at h2
      obtain ⟨a, xs, rfl, t, r1⟩ := h2
      obtain ⟨c1, c2⟩ := cmp_seq (.inr c.2)
      exact seq l a xs c.1 c1 c2 r1 rfl (.inl (.lst t.seq (reps_dp l xs c1 r1).1))
    · cases h
  · obtain ⟨key, ek, rfl⟩ := Option.map_eq_some_iff.mp h
    simp only [Rep] at h2
    obtain ⟨a, kvs, rfl, t, r1⟩ := h2
    refine .inr (.inl ⟨a, kvs, key, rfl, rep_key ek h1, t.1, ?_⟩)
    rcases repks_look key r1 with ⟨q1, q2⟩ | ⟨z', v, q1, q2, _⟩
    · rw [q2]
      rw [q1] at fin
      exact fin
    · rw [q2]
      rw [q1] at fin
      exact fin
  · split at h
    · obtain ⟨c, ec, rfl⟩ := Option.map_eq_some_iff.mp h
      simp only [Rep] at h1 h2
      have := chOf_some ec
      subst this
      exact .inr (.inr ⟨c, _, h1.1, h2.1, fin⟩)
    · cases h
  · cases h
theorem v2_in : V2 X.K w (rInA X.K false) dIn := by
  intro W H s x y d e z Q r hW hf h1 h2 h k
  obtain ⟨b, eb, rfl⟩ := Option.map_eq_some_iff.mp h
  exact in_core (neg := false) r h1 h2 eb k
theorem v2_notIn : V2 X.K w (rInA X.K true) dNotIn := by
  intro W H s x y d e z Q r hW hf h1 h2 h k
  obtain ⟨b, eb, rfl⟩ := Option.map_eq_some_iff.mp h
  exact in_core (neg := true) r h1 h2 eb k

/-! ### is None -/
def D.isNon : D → Bool
  | .non => true
  | _ => false
def dIs (d e : D) : Option D := match e with
  | .non => (match d with
    | .opq _ => none
    | .st _ => none
    | d => some (.bl d.isNon))
  | _ => none
def dIsNot (d e : D) : Option D := match e with
  | .non => (match d with
    | .opq _ => none
    | .st _ => none
    | d => some (.bl (!d.isNon)))
  | _ => none
theorem rep_non {K : PySem.W.Frag} {W : Set'} {H : Hp} {d : D} {v : V} (h : Rep K W H d v) (no : ∀ w, d ≠ .opq w) : decide (v = .non) = d.isNon := by
  cases d with
  | non => simp only [Rep] at h; subst h; rfl
  | bl b => simp only [Rep] at h; subst h; rfl
  | int b => simp only [Rep] at h; subst h; rfl
  | str b => simp only [Rep] at h; obtain ⟨rfl, _⟩ := h; rfl
  | opq w => exact absurd rfl (no w)
  | tup l => simp only [Rep] at h; obtain ⟨_, _, rfl, _⟩ := h; rfl
  | lst l => simp only [Rep] at h; obtain ⟨_, _, rfl, _⟩ := h; rfl
  | dct l => simp only [Rep] at h; obtain ⟨_, _, rfl, _⟩ := h; rfl
  | st l => simp only [Rep] at h
theorem v2_is : V2 X.K w (fun x y H Q => y = .non ∧ Q (.bl (decide (x = .non))) H) dIs := by
  intro W H s x y d e z Q r hW hf h1 h2 h k
  unfold dIs at h
  split at h
  · simp only [Rep] at h2
    refine ⟨h2, ?_⟩
    split at h
    · cases h
    · cases h
    · rename_i d n1 n2
      cases h
      rw [rep_non h1 fun w q => n1 w q]
      exact k _ H Mv.refl r (by simp only [Rep])
  · cases h
theorem v2_isNot : V2 X.K w (fun x y H Q => y = .non ∧ Q (.bl (!decide (x = .non))) H) dIsNot := by
  intro W H s x y d e z Q r hW hf h1 h2 h k
  unfold dIsNot at h
  split at h
  · simp only [Rep] at h2
    refine ⟨h2, ?_⟩
    split at h
    · cases h
    · cases h
    · rename_i d n1 n2
      cases h
      rw [rep_non h1 fun w q => n1 w q]
      exact k _ H Mv.refl r (by simp only [Rep])
  · cases h

/-! ### built-ins of one value -/
def dLen : List D → Option D
  | [.str x] => some (.int x.length)
  | [.tup l] => some (.int l.length)
  | [.lst l] => some (.int l.length)
  | _ => none
theorem reps1 {K : PySem.W.Frag} {W : Set'} {H : Hp} {d : D} {vs : List V} (h : Reps K W H [d] vs) : ∃ v, vs = [v] ∧ Rep K W H d v := by
  simp only [Reps] at h
  obtain ⟨v, r, rfl, h1, rfl⟩ := h
  exact ⟨v, rfl, h1⟩
theorem reps2 {K : PySem.W.Frag} {W : Set'} {H : Hp} {d e : D} {vs : List V} (h : Reps K W H [d, e] vs) : ∃ v u, vs = [v, u] ∧ Rep K W H d v ∧ Rep K W H e u := by
  simp only [Reps] at h
  obtain ⟨v, r, rfl, h1, u, r', rfl, h2, rfl⟩ := h
  exact ⟨v, u, rfl, h1, h2⟩
theorem vn_len : VN X.K w (fun xs H Q => ∃ x n, xs = [x] ∧ LenV X.K x H n ∧ Q (.int n) H) dLen := by
  intro W H s xs ds z Q r hW hf h1 h k
  unfold dLen at h
  split at h
  · cases h
    obtain ⟨v, rfl, hv⟩ := reps1 h1
    simp only [Rep] at hv
    obtain ⟨rfl, o⟩ := hv
    exact ⟨_, _, rfl, ⟨small4096 o.2, rfl⟩, k _ H Mv.refl r (by simp only [Rep])⟩
  · cases h
    obtain ⟨v, rfl, hv⟩ := reps1 h1
    simp only [Rep] at hv
    obtain ⟨a, ys, rfl, t, r1⟩ := hv
    refine ⟨_, ys.length, rfl, .inr ⟨ys, t.seq, rfl⟩, k _ H Mv.refl r (by rw [r1.length]; simp only [Rep])⟩
  · cases h
    obtain ⟨v, rfl, hv⟩ := reps1 h1
    simp only [Rep] at hv
    obtain ⟨a, ys, rfl, t, r1⟩ := hv
    refine ⟨_, ys.length, rfl, .inl ⟨ys, t.seq, rfl⟩, k _ H Mv.refl r (by rw [r1.length]; simp only [Rep])⟩
  · cases h
def dTuple : List D → Option D
  | [.tup l] => some (.tup l)
  | [.lst l] => some (.tup l)
  | _ => none
theorem vn_tuple : VN X.K w (rTupleZ X.K) dTuple := by
  intro W H s xs ds z Q r hW hf h1 h k
  unfold dTuple at h
  split at h
  · cases h
    obtain ⟨v, rfl, hv⟩ := reps1 h1
    have hv' := hv
    simp only [Rep] at hv
    obtain ⟨a, ys, rfl, t, r1⟩ := hv
    exact ⟨a, ys, rfl, .inr ⟨t.seq, k _ H Mv.refl r hv'⟩⟩
  · cases h
    obtain ⟨v, rfl, hv⟩ := reps1 h1
    simp only [Rep] at hv
    obtain ⟨a, ys, rfl, t, r1⟩ := hv
    refine ⟨a, ys, rfl, .inl ⟨t.seq, fun p o hp hd => ?_⟩⟩
    obtain ⟨m1, m2, m3⟩ := w.laidX (o := .frz o (.tup ys)) r hp hf
    refine k _ _ m1 m2 ?_
    simp only [Rep]
    exact ⟨p, ys, rfl, .at hd, r1.mv (m3.thin fun a z => .inl z)⟩
  · cases h
def keyD : Key → D
  | .inl i => .int i
  | .inr x => .str x
def dList : List D → Option D
  | [.tup l] => some (.lst l)
  | [.lst l] => some (.lst l)
  | _ => none
theorem vnf_list : VNF X.prog X.w X.K X.mg w (fun xs H Q => ∃ p ys, xs = [.ref p] ∧ (SqL X.K H p ys ∨ SqT X.K H p ys) ∧ ∀ l, H l = none → Q (.ref l) (upd H l (.lst ys))) dList := by
  intro W H s xs ds z Q r hW hf h1 h k
  unfold dList at h
  split at h
  · cases h
    obtain ⟨v, rfl, hv⟩ := reps1 h1
    simp only [Rep] at hv
    obtain ⟨a, ys, rfl, t, r1⟩ := hv
    refine ⟨a, ys, rfl, .inr t.seq, fun p hp => ?_⟩
    obtain ⟨m1, m2, m3⟩ := w.laidX (o := .lst ys) r hp hf
    exact k p _ m1 m2 hp ⟨ys, upd_same, r1.mv m3⟩
  · cases h
    obtain ⟨v, rfl, hv⟩ := reps1 h1
    simp only [Rep] at hv
    obtain ⟨a, ys, rfl, t, r1⟩ := hv
    refine ⟨a, ys, rfl, .inl t.seq, fun p hp => ?_⟩
    obtain ⟨m1, m2, m3⟩ := w.laidX (o := .lst ys) r hp hf
    exact k p _ m1 m2 hp ⟨ys, upd_same, r1.mv m3⟩
  · cases h
def dInt : List D → Option D
  | [.int i] => some (.int i)
  | [.bl b] => some (.int (if b then 1 else 0))
  | _ => none
theorem vn_int : VN X.K w (fun xs H Q => (∃ i, xs = [.int i] ∧ Q (.int i) H) ∨ ∃ k, xs = [.bl k] ∧ Q (.int (if k then 1 else 0)) H) dInt := by
  intro W H s xs ds z Q r hW hf h1 h k
  unfold dInt at h
  split at h
  · cases h
    obtain ⟨v, rfl, hv⟩ := reps1 h1
    simp only [Rep] at hv
    subst hv
    exact .inl ⟨_, rfl, k _ H Mv.refl r (by simp only [Rep])⟩
  · cases h
    obtain ⟨v, rfl, hv⟩ := reps1 h1
    simp only [Rep] at hv
    subst hv
    exact .inr ⟨_, rfl, k _ H Mv.refl r (by simp only [Rep])⟩
  · cases h
def dStr : List D → Option D
  | [.int i] => if okS (toString i : Str) ∧ i.natAbs.log2 < 1920 then some (.str (toString i : Str)) else none
  | _ => none
theorem vn_str : VN X.K w (fun xs H Q => ∃ i, xs = [.int i] ∧ i.natAbs.log2 < 1920 ∧ Q (.str (toString i)) H) dStr := by
  intro W H s xs ds z Q r hW hf h1 h k
  unfold dStr at h
  split at h
  · obtain ⟨c, rfl⟩ := ite_some h
    obtain ⟨v, rfl, hv⟩ := reps1 h1
    simp only [Rep] at hv
    subst hv
    exact ⟨_, rfl, c.2, k _ H Mv.refl r (by simp only [Rep, true_and]; exact c.1)⟩
  · cases h
/-- isinstance(d, T) -/
def D.ty : D → Option String
  | .non => some "NoneType"
  | .bl _ => some "bool"
  | .int _ => some "int"
  | .str _ => some "str"
  | .tup _ => some "tuple"
  | .lst _ => some "list"
  | .dct _ => some "dict"
  | _ => none
def isiB (u t : String) : Option Bool :=
  if u = t then some true else if u = "bool" ∧ t = "int" then some true else if t ∈ ["bool", "int", "str", "tuple", "list", "dict"] then some false else none
def dIsi : List D → Option D
  | [d, .opq (.ty t)] => d.ty.bind fun u => if u ∈ ["NoneType", "bool", "int", "str", "tuple", "list", "dict"] ∧ t ∈ ["bool", "int", "str", "tuple", "list", "dict"] then (isiB u t).map .bl else none
  | _ => none
theorem kit_isi {u t : String} (hu : u ∈ ["NoneType", "bool", "int", "str", "tuple", "list", "dict"]) (ht : t ∈ ["bool", "int", "str", "tuple", "list", "dict"]) {b : Bool} (h : isiB u t = some b) : kitB u t = some b := by
  have all : ∀ u ∈ ["NoneType", "bool", "int", "str", "tuple", "list", "dict"], ∀ t ∈ ["bool", "int", "str", "tuple", "list", "dict"], kitB u t = isiB u t := by decide +kernel
  rw [all u hu t ht, h]
theorem rep_ty {K : PySem.W.Frag} {W : Set'} {H : Hp} {d : D} {v : V} {u : String} (h : Rep K W H d v) (e : d.ty = some u) : TyX K H v (.type u) := by
  cases d with
  | non => cases e; simp only [Rep] at h; subst h; exact .base .non
  | bl b => cases e; simp only [Rep] at h; subst h; exact .base (.bl b)
  | int b => cases e; simp only [Rep] at h; subst h; exact .base (.int b)
  | str b => cases e; simp only [Rep] at h; obtain ⟨rfl, _⟩ := h; exact .base (.str b)
  | tup l =>
    cases e
    simp only [Rep] at h
    obtain ⟨a, xs, rfl, t, _⟩ := h
    rcases t with ⟨o, t, _⟩ | ⟨o, its, n, hk, hc, _⟩
    · exact .fTuple t
    · exact .kTuple hk hc
  | lst l => cases e; simp only [Rep] at h; obtain ⟨a, xs, rfl, t, _⟩ := h; exact .base (.lst t.1)
  | dct l => cases e; simp only [Rep] at h; obtain ⟨a, xs, rfl, t, _⟩ := h; exact .base (.dK t.1)
  | _ => cases e
theorem vn_isi : VN X.K w (rIsi X.K) dIsi := by
  intro W H s xs ds z Q r hW hf h1 h k
  unfold dIsi at h
  split at h
  · obtain ⟨u, eu, h⟩ := Option.bind_eq_some_iff.mp h
    split at h
    · rename_i c
      obtain ⟨b, eb, rfl⟩ := Option.map_eq_some_iff.mp h
      obtain ⟨v, cv, rfl, hv, hc⟩ := reps2 h1
      simp only [Rep] at hc
      subst hc
      exact ⟨v, _, _, _, b, rfl, .ty _, rep_ty hv eu, kit_ty (kit_isi c.1 c.2 eb), k _ H Mv.refl r (by simp only [Rep])⟩
    · cases h
  · cases h
theorem de_bty {C : Dc wd} {x : Str} {T : String} {pos : Pos} (hm : X.mg x = none) (hb : bootBuiltins x = some (.type T) := by decide +kernel) (hg : Gl X x := by rfl) (hn : x ≠ "__name__" := by decide +kernel) (hd : (x == ("__debug__" : Str)) = false := by decide +kernel) :
    DE X C (.Name x pos) [] (eC (.opq (.ty T))) := ⟨PE_imp (pe_bltn (v := .ty T) hg hm hb rfl hn hd) fun σ H Q ⟨env, s, R, h⟩ => h.ret R.rel (by simp only [Rep])⟩
def boolsOf : List D → Option (List Bool)
  | [] => some []
  | .bl b :: l => (boolsOf l).map (b :: ·)
  | _ => none
def intsOf : List D → Option (List Int)
  | [] => some []
  | .int b :: l => (intsOf l).map (b :: ·)
  | _ => none
theorem reps_bools {K : PySem.W.Frag} {W : Set'} {H : Hp} : ∀ {l : List D} {vs : List V} {bs : List Bool}, Reps K W H l vs → boolsOf l = some bs → vs = bs.map V.bl
  | [], vs, bs, h, e => by simp only [Reps] at h; cases e; exact h
  | d :: l, vs, bs, h, e => by
    cases d with
    | bl b =>
      obtain ⟨r, er, rfl⟩ := Option.map_eq_some_iff.mp (show (boolsOf l).map (b :: ·) = some bs from e)
      simp only [Reps, Rep] at h
      obtain ⟨v, vr, rfl, rfl, h2⟩ := h
      rw [reps_bools h2 er]
      rfl
    | _ => cases e
theorem reps_ints {K : PySem.W.Frag} {W : Set'} {H : Hp} : ∀ {l : List D} {vs : List V} {bs : List Int}, Reps K W H l vs → intsOf l = some bs → vs = bs.map V.int
  | [], vs, bs, h, e => by simp only [Reps] at h; cases e; exact h
  | d :: l, vs, bs, h, e => by
    cases d with
    | int b =>
      obtain ⟨r, er, rfl⟩ := Option.map_eq_some_iff.mp (show (intsOf l).map (b :: ·) = some bs from e)
      simp only [Reps, Rep] at h
      obtain ⟨v, vr, rfl, rfl, h2⟩ := h
      rw [reps_ints h2 er]
      rfl
    | _ => cases e
def dAll : List D → Option D
  | [.lst l] => (boolsOf l).map fun bs => .bl (bs.all id)
  | _ => none
def dAny : List D → Option D
  | [.lst l] => (boolsOf l).map fun bs => .bl (bs.any id)
  | _ => none
def dSum : List D → Option D
  | [.lst l] => (intsOf l).map fun bs => .int bs.sum
  | _ => none
theorem vn_all : VN X.K w (rAll X.K) dAll := by
  intro W H s xs ds z Q r hW hf h1 h k
  unfold dAll at h
  split at h
  · obtain ⟨bs, eb, rfl⟩ := Option.map_eq_some_iff.mp h
    obtain ⟨v, rfl, hv⟩ := reps1 h1
    simp only [Rep] at hv
    obtain ⟨a, ys, rfl, t, r1⟩ := hv
    have := reps_bools r1 eb
    subst this
    exact ⟨a, bs, rfl, t.seq, k _ H Mv.refl r (by simp only [Rep])⟩
  · cases h
theorem vn_any : VN X.K w (rAny X.K) dAny := by
  intro W H s xs ds z Q r hW hf h1 h k
  unfold dAny at h
  split at h
  · obtain ⟨bs, eb, rfl⟩ := Option.map_eq_some_iff.mp h
    obtain ⟨v, rfl, hv⟩ := reps1 h1
    simp only [Rep] at hv
    obtain ⟨a, ys, rfl, t, r1⟩ := hv
    have := reps_bools r1 eb
    subst this
    exact ⟨a, bs, rfl, t.seq, k _ H Mv.refl r (by simp only [Rep])⟩
  · cases h
theorem vn_sum : VN X.K w (rSum X.K) dSum := by
  intro W H s xs ds z Q r hW hf h1 h k
  unfold dSum at h
  split at h
  · obtain ⟨bs, eb, rfl⟩ := Option.map_eq_some_iff.mp h
    obtain ⟨v, rfl, hv⟩ := reps1 h1
    simp only [Rep] at hv
    obtain ⟨a, ys, rfl, t, r1⟩ := hv
    have := reps_ints r1 eb
    subst this
    exact ⟨a, bs, rfl, t.seq, k _ H Mv.refl r (by simp only [Rep])⟩
  · cases h
def dMax2 : List D → Option D
  | [.int i, .int j] => some (.int (if j > i then j else i))
  | _ => none
def dMin2 : List D → Option D
  | [.int i, .int j] => some (.int (if j < i then j else i))
  | _ => none
theorem vn_max2 : VN X.K w (fun xs H Q => ∃ i j, xs = [.int i, .int j] ∧ Q (.int (if j > i then j else i)) H) dMax2 := by
  intro W H s xs ds z Q r hW hf h1 h k
  unfold dMax2 at h
  split at h
  · cases h
    obtain ⟨v, u, rfl, hv, hu⟩ := reps2 h1
    simp only [Rep] at hv hu
    subst hv
    subst hu
    exact ⟨_, _, rfl, k _ H Mv.refl r (by simp only [Rep])⟩
  · cases h
theorem vn_min2 : VN X.K w (fun xs H Q => ∃ i j, xs = [.int i, .int j] ∧ Q (.int (if j < i then j else i)) H) dMin2 := by
  intro W H s xs ds z Q r hW hf h1 h k
  unfold dMin2 at h
  split at h
  · cases h
    obtain ⟨v, u, rfl, hv, hu⟩ := reps2 h1
    simp only [Rep] at hv hu
    subst hv
    subst hu
    exact ⟨_, _, rfl, k _ H Mv.refl r (by simp only [Rep])⟩
  · cases h
end

/-! ### slices -/
def cutD {α : Type} (l : List α) (lo hi : Option Int) : List α := (l.drop (HT.sIx l.length 0 lo)).take (HT.sIx l.length l.length hi - HT.sIx l.length 0 lo)
theorem reps_cut {K : PySem.W.Frag} {W : Set'} {H : Hp} {l : List D} {vs : List V} (h : Reps K W H l vs) (lo hi : Option Int) : Reps K W H (cutD l lo hi) (cutV vs lo hi) := by
  unfold cutD cutV
  rw [h.length]
  exact (h.drop _).take _
theorem cut_whole {α : Type} {l : List α} {lo hi : Option Int} (h : HT.sIx l.length 0 lo = 0 ∧ HT.sIx l.length l.length hi = l.length) : cutD l lo hi = l := by
  unfold cutD
  rw [h.1, h.2]
  simp
def dCut (d : D) (lo hi : Option Int) : Option D := match d with
  | .tup l => some (.tup (cutD l lo hi))
  | .lst l => some (.lst (cutD l lo hi))
  | .str x => some (.str (cutS x lo hi))
  | _ => none
def rSlAll (K : PySem.W.Frag) : V → Option Int → Option Int → Hp → VK → Prop := fun x lo hi H Q => rSlZ K x lo hi H Q ∨ rSlL K x lo hi H Q ∨ rSlS x lo hi H Q
section
variable {S : Type} {wd : Wd S} {X : Cx} {C : Dc wd} {al bl cl : List Nat} {e : Expr} {lo hi : Option Expr} {m ml mh : En S D} {pos p2 : Pos}
theorem sl_all : SlR X (rSlAll X.K) := sl_tupZ.or (sl_list.or sl_str)
theorem okS_cut {x : Str} (h : okS x) (lo hi : Option Int) : okS (cutS x lo hi) := by
  refine ⟨?_, Nat.le_trans (cutS_length x lo hi) h.2⟩
  have h1 := h.1
  unfold PyData.strOk at *
  unfold cutS
  rw [← Array.all_toList, List.all_eq_true] at h1
  rw [List.all_toArray, List.all_eq_true]
  intro c hc
  exact h1 c (List.mem_of_mem_drop (List.mem_of_mem_take hc))
abbrev EnO (S : Type) := List Sl → M S (Option Int)
def ResO (g : Gx) (C : Dc wd) (H : Hp) (o : Out S (Option Int)) (Q : Option Int → Hp → Prop) : Prop := match o with
  | .ok d s' => ∀ H', Ext C H H' → wd.rel s' H' → Q d H'
  | .ex c fs s' => ExP g wd C.Hb C.E c fs s'
  | .bad => False
structure DO (X : Cx) (C : Dc wd) (e : Option Expr) (m : EnO S) : Prop where
  run : PO X e fun σ H Q => ∃ env s, RelE (gx X) C env σ H s ∧ ResO (gx X) C H (m env s) Q
theorem PO_imp {e : Option Expr} {t t' : TO} (h : PO X e t) (i : ∀ σ H Q, t' σ H Q → t σ H Q) : PO X e t' := ⟨fun pins s σ H Q I q => h.run pins s σ H Q I (i σ H Q q)⟩
def oNone : EnO S := fun _ => M.ret none
def oSome (m : En S D) : EnO S := fun env => M.bind (m env) fun d => match d with
  | .int i => M.ret (some i)
  | _ => M.fail
theorem do_none : DO X C none oNone := ⟨PO_imp po_none fun σ H Q ⟨env, s, R, h⟩ => h H Mv.refl R.rel⟩
theorem famO {g : Gx} {Q : Option Int → Hp → Prop} : Fam g C fun H o => ResO g C H o Q where
  ex := fun h => h
  bad := fun h => h
  mono := fun {H H1 s1 o} m r h => by
    cases o with
    | ok d s' => exact fun H' m' r' => h H' (m.trans m') r'
    | ex c fs s' => exact h
    | bad => exact h
theorem bindO {β : Type} {Rs : Hp → Out S β → Prop} {g : Gx} {env : List Sl} {σ : Sg} {H : Hp} {s : S} {m : M S (Option Int)} {k : Option Int → M S β} {Q : Option Int → Hp → Prop} (R : RelE g C env σ H s) (F : Fam g C Rs) (h : Rs H (M.bind m k s))
    (hk : ∀ b s1 H1, RelE g C env σ H1 s1 → Ext C H H1 → Rs H1 (k b s1) → Q b H1) : ResO g C H (m s) Q := by
  unfold M.bind at h
  cases e : m s with
  | ok d s1 =>
    rw [e] at h
    exact fun H1 m1 r => hk d s1 H1 (R.step m1 r) m1 (F.mono m1 r h)
  | ex c fs s1 =>
    rw [e] at h
    exact F.ex h
  | bad =>
    rw [e] at h
    exact F.bad h
theorem do_some (h : DE X C e al m) : DO X C (some e) (oSome m) := by
  refine ⟨PO_imp (po_some h.run) fun σ H Q ⟨env, s, R, h⟩ => ?_⟩
  unfold oSome at h
  refine ⟨env, s, R, bindE R famO h fun d s1 x H1 R1 m1 q1 h1 => ?_⟩
  cases d with
  | int i =>
    simp only [Rep] at q1
    exact ⟨i, q1, h1 H1 Mv.refl R1.rel⟩
  | _ => exact False.elim h1
def eCut (m : En S D) (ml mh : EnO S) : En S D := fun env => M.bind (m env) fun d => M.bind (ml env) fun lo => M.bind (mh env) fun hi => M.ofO (dCut d lo hi)
theorem de_slice {ml mh : EnO S} (he : DE X C e al m) (hl : DO X C lo ml) (hh : DO X C hi mh) : DE X C (.Subscript e (.Slice lo hi none p2) pos) al (eCut m ml mh) := by
  refine ⟨PE_imp (pe_slice sl_all he.run hl.run hh.run) fun σ H Q ⟨env, s, R, h⟩ => ?_⟩
  unfold eCut at h
  refine ⟨env, s, R, bindE R famE h fun d s1 x H1 R1 m1 q1 h1 => ⟨env, s1, R1, bindO R1 famE h1 fun l s2 H2 R2 m2 h2 => ⟨env, s2, R2, bindO R2 famE h2 fun u s3 H3 R3 m3 h3 => ?_⟩⟩⟩
  have q3 := (q1.mv (Ext.ow R1 m2)).mv (Ext.ow R2 m3)
  unfold dCut at h3
  split at h3
  · rename_i xs
    simp only [Rep] at q3
    obtain ⟨a, vs, rfl, t, r1⟩ := q3
    refine .inl ⟨a, vs, rfl, t.seq, fun hw => ?_, fun p o hp hd => ?_⟩
    · rw [r1.length] at hw
      refine h3 _ H3 Mv.refl R3.rel ?_
      rw [cut_whole hw]
      simp only [Rep]
      exact ⟨a, vs, rfl, t, r1⟩
    · obtain ⟨m4, r4⟩ := wd.laid (o := .frz o (.tup (cutV vs l u))) R3.rel hp
      refine h3 _ _ m4 r4 ?_
      simp only [Rep]
      exact ⟨p, _, rfl, .at hd, (reps_cut r1 l u).mv (Ext.ow R3 m4)⟩
  · rename_i xs
    simp only [Rep] at q3
    obtain ⟨a, vs, rfl, t, r1⟩ := q3
    refine .inr (.inl ⟨a, vs, rfl, t.seq, fun p hp => ?_⟩)
    obtain ⟨m4, r4⟩ := wd.laid (o := .lst (cutV vs l u)) R3.rel hp
    refine h3 _ _ m4 r4 ?_
    simp only [Rep]
    exact ⟨p, _, rfl, ⟨upd_same, R3.new hp⟩, (reps_cut r1 l u).mv (Ext.ow R3 m4)⟩
  · simp only [Rep] at q3
    obtain ⟨rfl, o⟩ := q3
    exact .inr (.inr ⟨_, rfl, small4096 o.2, h3 _ H3 Mv.refl R3.rel (by simp only [Rep, true_and]; exact okS_cut o l u)⟩)
  · exact False.elim h3
end
end DD
/-! enumerate and zip over lists, tuples and texts, as walks of the hand layer -/
namespace PySem
open Sem (wp)
theorem dd_meets_enum {v : Value} {o : Obj} {H : Heap → Prop} (B : Begins v o H) :
    Meets (Builtin.«enumerate.__new__» ⟨[.type "enumerate", v], []⟩) (fun _ R s => H s.heap ∧
      R (.ok (.ret (.ref (s.heap.push o).objs.size))) { s with heap := (s.heap.push o).push { cls := .type "enumerate", data := .fields #[.none, .bool false, .ref s.heap.objs.size, rawInt 0, .none, .none] } }) :=
  .of_wp fun prog w A R s h => by
    obtain ⟨hp, g, d, tk, os⟩ := s; obtain ⟨h1, h⟩ := h
    have hsub := sub_enumerate
    have q1 : ∀ {A' : Around} {E : Value → Shared → Prop} {Q : Value → Shared → Prop}, Q (.ref hp.objs.size) ⟨hp.push o, g, d, tk, os⟩ → wpAny (model prog w) A' (pyIter v) Q E ⟨hp, g, d, tk, os⟩ :=
      fun q => B.iter prog w _ _ ⟨hp, g, d, tk, os⟩ _ h1 q
    wp_walk using q1
    refine wpAny_stack_any fun st => wpAny_pure ?_
    split
    · rename_i c _ _ _ _ _
      cases (c == Value.type "enumerate")
      · wp_walk using q1
        exact ⟨_, rfl, h⟩
      · wp_walk using q1
        exact ⟨_, rfl, h⟩
    · wp_walk using q1
      exact ⟨_, rfl, h⟩
section
variable {prog : Program} {w : World} {A : Around} {E : Value → Shared → Prop} {s : Shared}
theorem dd_enum_begins {v : Value} {o : Obj} {H : Heap → Prop} {Q : Value → Shared → Prop} (B : Begins v o H) (h1 : H s.heap)
    (h : ∀ h', IsEnum h' (s.heap.objs.size + 1) s.heap.objs.size 0 .none → h'.get? s.heap.objs.size = some o → h'.objs.size = s.heap.objs.size + 2 →
      (∀ b o, s.heap.get? b = some o → h'.get? b = some o) → Q (.ref (s.heap.objs.size + 1)) { s with heap := h' }) :
    wpAny (model prog w) A (call (.type "enumerate") [v]) Q E s := by
  refine callType_new F.called_enumerate (by decide) (F.typeCall_enumerate_1 _) (F.newCall_enumerate_1 _) (fun obj => F.args_object_init_2 obj _) F.entry_enumerate_new
    (dd_meets_enum B) ⟨h1, ?_⟩
  have hz : (s.heap.push o).objs.size = s.heap.objs.size + 1 := Heap.size_push ..
  show _ ∧ _
  rw [hz]
  have he : IsEnum ((s.heap.push o).push { cls := .type "enumerate", data := .fields #[.none, .bool false, .ref s.heap.objs.size, rawInt 0, .none, .none] }) (s.heap.objs.size + 1) s.heap.objs.size 0 .none := by
    have := Heap.get?_push_size (s.heap.push o) (o := { cls := .type "enumerate", data := .fields #[.none, .bool false, .ref s.heap.objs.size, rawInt 0, .none, .none] }) rfl
    rw [hz] at this; exact this
  refine ⟨⟨_, he, rfl⟩, h _ he (Heap.get?_push_of_some _ (Heap.get?_push_size _ B.free)) (by rw [Heap.size_push, hz]) fun b o x => Heap.get?_push_of_some _ (Heap.get?_push_of_some _ x)⟩
end
end PySem
namespace DD
open PySem PySem.Spec PyProof.Rows L2
abbrev Sg' := L2.St
/-- what is drawn from: a list, a tuple, a text -/
inductive SK where
  | l (a : Addr)
  | t (a : Addr)
  | s (x : Str) (tk : Tok)
namespace SK
def cell : SK → Addr → Nat → Heap → Prop
  | l a, it, i, h => h.IsListIter it a i
  | t a, it, i, h => h.IsTupleIter it a i
  | s x tk, it, i, h => h.IsStrIter it (strIterType x) x tk i
def obj : SK → Obj
  | l a => { cls := .type "list_iterator", data := .fields #[.ref a, .int 0 0] }
  | t a => { cls := .type "tuple_iterator", data := .fields #[.ref a, .int 0 0] }
  | s x tk => { cls := .type (strIterType x), data := .fields #[.str x tk, .int 0 0] }
def val : SK → Value
  | l a => .ref a
  | t a => .ref a
  | s x tk => .str x tk
def fp : SK → Addr → List Addr
  | l a, it => [it, a]
  | t a, it => [it, a]
  | s _ _, it => [it]
def apart : SK → Addr → Prop
  | l a, b => a ≠ b
  | t a, b => a ≠ b
  | s _ _, _ => True
def signs (x : Str) : List V := x.cps.toList.map fun c => V.str ⟨#[c]⟩
def vals (K : PySem.W.Frag) (H : Hp) : SK → List V → Prop
  | l a, vs => SqL K H a vs
  | t a, vs => SqT K H a vs
  | s x _, vs => vs = signs x
theorem cell_obj (k : SK) {it : Addr} {i : Nat} {h : Heap} (c : k.cell it i h) : ∃ o, h.get? it = some o ∧ ∀ v, o.data ≠ .cell v := by
  cases k with
  | l a => obtain ⟨o, e, _, d⟩ := c; exact ⟨o, e, fun v z => by rw [d] at z; cases z⟩
  | t a => obtain ⟨o, e, _, d⟩ := c; exact ⟨o, e, fun v z => by rw [d] at z; cases z⟩
  | s x tk => obtain ⟨o, e, _, d⟩ := c; exact ⟨o, e, fun v z => by rw [d] at z; cases z⟩
theorem cell_at (k : SK) {it : Addr} {i : Nat} {h h' : Heap} (c : k.cell it i h) (f : ∀ o, h.get? it = some o → h'.get? it = some o) : k.cell it i h' := by
  cases k with
  | l a => obtain ⟨o, e, r⟩ := c; exact ⟨o, f o e, r⟩
  | t a => obtain ⟨o, e, r⟩ := c; exact ⟨o, f o e, r⟩
  | s x tk => obtain ⟨o, e, r⟩ := c; exact ⟨o, f o e, r⟩
theorem cell_0 (k : SK) {it : Addr} {h : Heap} (e : h.get? it = some k.obj) : k.cell it 0 h := by
  cases k with
  | l a => exact ⟨_, e, rfl, rfl⟩
  | t a => exact ⟨_, e, rfl, rfl⟩
  | s x tk => exact ⟨_, e, rfl, rfl⟩
theorem mem (k : SK) (it : Addr) : it ∈ k.fp it := by cases k <;> simp [fp]
theorem out (k : SK) {it b : Addr} (h1 : b ≠ it) (h2 : k.apart b) : b ∉ k.fp it := by
  cases k with
  | l a => simp only [fp, List.mem_cons, List.not_mem_nil, or_false, not_or]; exact ⟨h1, Ne.symm h2⟩
  | t a => simp only [fp, List.mem_cons, List.not_mem_nil, or_false, not_or]; exact ⟨h1, Ne.symm h2⟩
  | s x tk => simp only [fp, List.mem_cons, List.not_mem_nil, or_false]; exact h1
section
variable {X : Cx} {pins : List (Addr × Obj)} {σ : Sg'} {H : Hp} {s : Shared}
theorem inj (k : SK) (I : Inv X pins σ H s) {vs us : List V} (h1 : k.vals X.K H vs) (h2 : k.vals X.K H us) : vs = us := by
  cases k with
  | l a => exact I.list_inj h1 h2
  | t a => exact I.tuple_inj h1 h2
  | s x tk => exact Eq.trans h1 (Eq.symm h2)
/-- the source as it stands now -/
theorem draws (k : SK) (I : Inv X pins σ H s) {vs : List V} (hv : k.vals X.K H vs) {A : Around} (hh : A.handled = none) {it : Addr} (ap : k.apart it) :
    ∃ (P : Nat → Value → Prop) (src : Heap → Prop), src s.heap ∧ Draws X.prog X.w A it (k.fp it) vs.length P (fun i h => k.cell it i h ∧ src h) ∧ (∀ i u, P i u → ∃ v, vs[i]? = some v ∧ RelV v u) ∧ Begins k.val k.obj src := by
  cases k with
  | l a =>
    obtain ⟨its, r, p, _⟩ := I.list hv
    refine ⟨fun i v => its.toArray[i]? = some v, fun h => h.IsList a its.toArray, p.isList, ?_, fun i u e => ?_, begins_list a its.toArray⟩
    · have D := Draws.list (prog := X.prog) (w := X.w) hh it a ap its.toArray
      rw [List.size_toArray, ← r.length] at D
      exact D
    · have e' : its[i]? = some u := by simpa using e
      obtain ⟨hi, _⟩ := List.getElem?_eq_some_iff.mp e'
      obtain ⟨u', e2, r2⟩ := r.get (show vs[i]? = some _ from List.getElem?_eq_getElem (by rw [r.length]; exact hi))
      rw [e'] at e2
      cases e2
      exact ⟨_, List.getElem?_eq_getElem (by rw [r.length]; exact hi), r2⟩
  | t a =>
    obtain ⟨its, r, p, _⟩ := I.tuple hv
    refine ⟨fun i v => its.toArray[i]? = some v, fun h => h.IsTuple a its.toArray, p, ?_, fun i u e => ?_, begins_tuple a its.toArray⟩
    · have D := Draws.tuple (prog := X.prog) (w := X.w) hh it a ap its.toArray
      rw [List.size_toArray, ← r.length] at D
      exact D
    · have e' : its[i]? = some u := by simpa using e
      obtain ⟨hi, _⟩ := List.getElem?_eq_some_iff.mp e'
      obtain ⟨u', e2, r2⟩ := r.get (show vs[i]? = some _ from List.getElem?_eq_getElem (by rw [r.length]; exact hi))
      rw [e'] at e2
      cases e2
      exact ⟨_, List.getElem?_eq_getElem (by rw [r.length]; exact hi), r2⟩
  | s x tk =>
    have hv' : vs = signs x := hv
    subst hv'
    refine ⟨fun i v => ∃ c u, x.cps[i]? = some c ∧ v = .str ⟨#[c]⟩ u, fun _ => True, trivial, ?_, fun i u ⟨c, t0, e, hu⟩ => ⟨.str ⟨#[c]⟩, ?_, t0, hu⟩, begins_text x tk⟩
    · have D := Draws.text (prog := X.prog) (w := X.w) hh it x tk
      have hl : (signs x).length = x.cps.size := by simp [signs]
      rw [hl]
      exact ⟨fun i h st => D.live i h st.1, fun i h h' st f => ⟨D.frame i h h' st.1 f, trivial⟩, fun i s Q E hi st q => D.item i s Q E hi st.1 fun v h' tk p st' sb => q v h' tk p ⟨st', trivial⟩ sb, fun s Q E st q => D.done s Q E st.1 q⟩
    · unfold signs
      rw [List.getElem?_map]
      simp [e]
end
end SK

/-- each item of the source, told by its place, in a new pair -/
def ItE (K : PySem.W.Frag) (k : SK) : It :=
  ⟨fun i H => ∃ (xs : List V) (x : V), k.vals K H xs ∧ xs[i]? = some x, fun i H v H' => ∃ T x, v = .ref T ∧ H T = none ∧ H' = upd H T (.tup [.int (i : Nat), x]) ∧ ∀ xs, k.vals K H xs → xs[i]? = some x, fun i H => ∃ xs : List V, k.vals K H xs ∧ xs.length = i⟩
theorem turn_enumS {P : Program} {w : World} {K : PySem.W.Frag} {elts : List Expr} {kk : Nat} {tpos : Pos} (k : SK) (e it : Addr) :
    Turn P w K (.Tuple elts kk tpos) (ItE K k) [e, it] e (fun i h => (∃ old, IsEnum h e it ((i : Nat) : Int) old) ∧ k.cell it i h ∧ e ≠ it ∧ k.apart it ∧ k.apart e) where
  mem := by simp
  obj := fun i h st b hb => by
    obtain ⟨⟨old, he⟩, hc, _⟩ := st
    have e' : b = e ∨ b = it := by simpa using hb
    rcases e' with z | z
    · rw [z]; exact ⟨_, he, fun v q => nomatch q⟩
    · rw [z]; exact k.cell_obj hc
  keep := fun i h h' st f => let ⟨⟨old, he⟩, hi, r⟩ := st; ⟨⟨old, f e (by simp) _ he⟩, k.cell_at hi fun o q => f it (by simp) o q, r⟩
  item := by
    intro X hP hw hK hc i pins s σ H E I hf st hg
    subst hP hw hK
    obtain ⟨⟨old, he⟩, hit, hne, ap1, ap2⟩ := st
    obtain ⟨xs, x, hq, hx⟩ := hg
    obtain ⟨Pd, src, hs, D, hv, _⟩ := k.draws I hq (A := X.A.in1) (I.ok.hd hc) ap1
    have hlt : i < xs.length := (List.getElem?_eq_some_iff.mp hx).1
    have Wk := WalksT.enumFrom 0 D e hne (k.out hne ap2) (k.mem it)
    have z0 : ((0 : Int) + (i : Nat)) = ((i : Nat) : Int) := by omega
    have z1 : ((0 : Int) + ((i + 1 : Nat) : Int)) = ((i + 1 : Nat) : Int) := by omega
    have hel : e < s.heap.objs.size := Heap.lt_size he
    have hil : it < s.heap.objs.size := by obtain ⟨_, q, _⟩ := k.cell_obj hit; exact Heap.lt_size q
    refine Wk.item i s _ _ hlt ⟨⟨old, by rw [z0]; exact he⟩, hit, hs⟩ fun T vals h' tk hp hT htup hmid hk => ?_
    obtain ⟨t, u, hPu, rfl⟩ := hp
    obtain ⟨v, ev, rv⟩ := hv i u hPu
    rw [hx] at ev
    cases ev
    have apT := Wk.apart i T h' hmid
    refine ⟨_, rfl, Wk.go elts kk tpos i T { s with heap := h', toks := tk } _ _ hmid fun h'' st'' hk2 => ?_⟩
    obtain ⟨⟨old', he'⟩, hit', _⟩ := st''
    have hT2 : h''.IsTuple T #[.int (0 + (i : Int)) t, u] := htup.at fun o q => hk2 T o apT q
    have new : ObjOk X.prog X.w (upd H T (.tup [.int (i : Nat), x])) h'' T (.tup [.int (i : Nat), x]) :=
      ⟨by show 2 ≤ sizeLine; decide, [.int (0 + (i : Int)) t, u], .cons ⟨t, by rw [z0]⟩ (.cons rv .nil), hT2⟩
    have I1 : Inv X pins σ (upd H T (.tup [.int (i : Nat), x])) { s with heap := h'', toks := tk } :=
      I.turnedNew (ch := [e, it]) (fun b ob hb q => hk2 b ob hb (hk b ob hb q)) hf hT new
    refine ⟨.ref T, _, I1, rfl, ⟨T, x, rfl, I.hok.fresh hT, rfl, fun ys hy => by rw [k.inj I hy hq]; exact hx⟩, ⟨⟨old', by rw [← z1]; exact he'⟩, hit', hne, ap1, ap2⟩, fun b hb => ?_⟩
    have hb' : b < s.heap.objs.size := by
      have e' : b = e ∨ b = it := by simpa using hb
      rcases e' with z | z
      · rw [z]; exact hel
      · rw [z]; exact hil
    rw [upd_ne (Nat.ne_of_lt (Nat.lt_of_lt_of_le hb' hT))]
    exact (hf b hb).1
  done := by
    intro X hP hw hK hc i pins s σ H E I hf st hg
    subst hP hw hK
    obtain ⟨⟨old, he⟩, hit, hne, ap1, ap2⟩ := st
    obtain ⟨xs, hq, hx⟩ := hg
    obtain ⟨Pd, src, hs, D, hv, _⟩ := k.draws I hq (A := X.A.in1) (I.ok.hd hc) ap1
    have hel : e < s.heap.objs.size := Heap.lt_size he
    subst hx
    have Wk := WalksT.enumFrom 0 D e hne (k.out hne ap2) (k.mem it)
    have z0 : ((0 : Int) + (xs.length : Nat)) = ((xs.length : Nat) : Int) := by omega
    exact Wk.done s _ _ ⟨⟨old, by rw [z0]; exact he⟩, hit, hs⟩ fun h' tk hk => ⟨rfl, I.turnedL (t' := tk) (ch := [e, it]) (fun b o hb q => hk b o hb q) hf⟩
  self := fun A i s Q E st h => let ⟨⟨_, he⟩, _⟩ := st; wpAny_pyIter_enum he h
/-- a value as a source -/
def SrcOf (K : PySem.W.Frag) (H : Hp) (x : V) (R : SK → Prop) : Prop :=
  (∃ a vs, x = .ref a ∧ SqL K H a vs ∧ R (.l a)) ∨ (∃ a vs, x = .ref a ∧ SqT K H a vs ∧ R (.t a)) ∨ ∃ z, x = .str z ∧ ∀ tk, R (.s z tk)
theorem SrcOf.get {X : Cx} {pins : List (Addr × Obj)} {σ : Sg'} {H : Hp} {s : Shared} {x : V} {u : Value} {R : SK → Prop} (I : Inv X pins σ H s) (r : RelV x u) (h : SrcOf X.K H x R) :
    ∃ k vs, u = SK.val k ∧ k.vals X.K H vs ∧ R k ∧ ∀ b, s.heap.objs.size ≤ b → k.apart b := by
  rcases h with ⟨a, vs, rfl, hq, hR⟩ | ⟨a, vs, rfl, hq, hR⟩ | ⟨z, rfl, hR⟩
  · obtain ⟨its, _, p, _⟩ := I.list hq
    exact ⟨.l a, vs, r, hq, hR, fun b hb => Nat.ne_of_lt (Nat.lt_of_lt_of_le p.lt hb)⟩
  · obtain ⟨its, _, p, _⟩ := I.tuple hq
    exact ⟨.t a, vs, r, hq, hR, fun b hb => Nat.ne_of_lt (Nat.lt_of_lt_of_le p.lt hb)⟩
  · obtain ⟨tk, rfl⟩ := r
    exact ⟨.s z tk, SK.signs z, rfl, rfl, hR tk, fun _ _ => trivial⟩
def iEnumS (K : PySem.W.Frag) (ta : TA) : TI := fun σ H R => ta σ H fun vs H1 => ∃ x, vs = [x] ∧ SrcOf K H1 x fun k => R (ItE K k) H1
theorem pi_enumS {X : Cx} {e : Expr} {ta : TA} {p pos tpos : Pos} {elts : List Expr} {kk : Nat} (hc : X.calm = true) (hg : Gl X "enumerate") (hm : X.mg "enumerate" = none) (ha : PA X [e] ta) (hs : starEach [e] X.env = [(false, eval e X.env)] := by rfl) :
    PI X (.Tuple elts kk tpos) (.Call (.Name "enumerate" p) [e] [] pos) (iEnumS X.K ta) := by
  refine ⟨fun pins s σ H R I h => ?_⟩
  refine Call_ (ld_blt I hg hm boot_enumerate (PyProof.Rows.callWith_type1 (thn (ha.run pos pins s σ H _ I h) fun us s1 ⟨vs, H1, I1, r1, q1⟩ => ?_) hs rfl))
  obtain ⟨x, ex, q⟩ := q1
  subst ex
  obtain ⟨u, rfl, ru⟩ := vals1 r1
  obtain ⟨k, vs, rfl, hv, hR, hap⟩ := SrcOf.get I1 ru q
  obtain ⟨Pd, src, hsrc, _, _, B⟩ := k.draws I1 hv (A := X.A.in1) (I1.ok.hd hc) (hap s1.heap.objs.size (Nat.le_refl _))
  refine dd_enum_begins B hsrc fun h' he hit hsz hk => wpAny_pyIter_enum he ?_
  have I2 : Inv X pins σ H1 { s1 with heap := h' } := I1.kept (t' := s1.toks) hk
  refine ⟨s1.heap.objs.size + 1, [s1.heap.objs.size + 1, s1.heap.objs.size], _, _, H1, rfl, I2, turn_enumS k (s1.heap.objs.size + 1) s1.heap.objs.size, ⟨⟨.none, he⟩, k.cell_0 hit, Nat.succ_ne_self _, hap _ (Nat.le_refl _), hap _ (Nat.le_add_right _ _)⟩, fun b hb => ?_, hR⟩
  have e' : b = s1.heap.objs.size + 1 ∨ b = s1.heap.objs.size := by simpa using hb
  have hle : s1.heap.objs.size ≤ b := by
    rcases e' with z | z
    · rw [z]; exact Nat.le_add_right _ _
    · rw [z]; exact Nat.le_refl _
  exact I1.fpOk hle (I1.hok.fresh hle)
/-- the items of two sources in new pairs -/
def ItZ (K : PySem.W.Frag) (k k2 : SK) : It :=
  ⟨fun i H => ∃ (xs ys : List V) (x y : V), k.vals K H xs ∧ k2.vals K H ys ∧ xs[i]? = some x ∧ ys[i]? = some y,
    fun i H v H' => ∃ T x y, v = .ref T ∧ H T = none ∧ H' = upd H T (.tup [x, y]) ∧ (∀ xs, k.vals K H xs → xs[i]? = some x) ∧ ∀ ys, k2.vals K H ys → ys[i]? = some y,
    fun i H => ∃ xs ys : List V, k.vals K H xs ∧ k2.vals K H ys ∧ min xs.length ys.length = i⟩
theorem turn_zipS {P : Program} {w : World} {K : PySem.W.Frag} {elts : List Expr} {kk : Nat} {tpos : Pos} {k k2 : SK} {z TI TO i1 i2 : Addr} (Sp : ZipSep2 z TI TO i1 i2 (k.fp i1) (k2.fp i2)) (ap1 : k.apart i1) (ap2 : k2.apart i2) :
    Turn P w K (.Tuple elts kk tpos) (ItZ K k k2) [z, TI, TO, i1, i2] z (fun i h => IsZip h z TI TO .none ∧ IsTupOf2 h TI (.ref i1) (.ref i2) ∧ (∃ a1 a2, IsTupOf2 h TO a1 a2) ∧ k.cell i1 i h ∧ k2.cell i2 i h) where
  mem := by simp
  obj := fun i h st b hb => by
    obtain ⟨hz, hTI, ⟨x, y, hTO⟩, h1, h2⟩ := st
    have e' : b = z ∨ b = TI ∨ b = TO ∨ b = i1 ∨ b = i2 := by simpa using hb
    rcases e' with q | q | q | q | q
    · rw [q]; exact ⟨_, hz, fun v q => nomatch q⟩
    · rw [q]; exact ⟨_, hTI, fun v q => nomatch q⟩
    · rw [q]; exact ⟨_, hTO, fun v q => nomatch q⟩
    · rw [q]; exact k.cell_obj h1
    · rw [q]; exact k2.cell_obj h2
  keep := fun i h h' st f => by
    obtain ⟨hz, hTI, ⟨x, y, hTO⟩, h1, h2⟩ := st
    exact ⟨f z (by simp) _ hz, f TI (by simp) _ hTI, ⟨x, y, f TO (by simp) _ hTO⟩, k.cell_at h1 fun o q => f i1 (by simp) o q, k2.cell_at h2 fun o q => f i2 (by simp) o q⟩
  item := by
    intro X hP hw hK hc i pins s σ H E I hf st hg
    subst hP hw hK
    obtain ⟨hz, hTI, ⟨x0, y0, hTO⟩, h1, h2⟩ := st
    obtain ⟨xs, ys, x, y, hqx, hqy, hx, hy⟩ := hg
    obtain ⟨P1, src1, hs1, D1, hv1, _⟩ := k.draws I hqx (A := X.A.in1) (I.ok.hd hc) ap1
    obtain ⟨P2, src2, hs2, D2, hv2, _⟩ := k2.draws I hqy (A := X.A.in1) (I.ok.hd hc) ap2
    have l1 : i < xs.length := (List.getElem?_eq_some_iff.mp hx).1
    have l2 : i < ys.length := (List.getElem?_eq_some_iff.mp hy).1
    have Wk := WalksT.zipD2 Sp D1 D2
    have wfp : ∀ b, b ∈ [z, TO, i1, i2] → b ∈ [z, TI, TO, i1, i2] := fun b hb => by
      simp only [List.mem_cons, List.not_mem_nil, or_false] at hb ⊢
      rcases hb with q | q | q | q
      · exact .inl q
      · exact .inr (.inr (.inl q))
      · exact .inr (.inr (.inr (.inl q)))
      · exact .inr (.inr (.inr (.inr q)))
    have hlt : ∀ b ∈ [z, TI, TO, i1, i2], b < s.heap.objs.size := fun b hb => by
      have e' : b = z ∨ b = TI ∨ b = TO ∨ b = i1 ∨ b = i2 := by simpa using hb
      rcases e' with q | q | q | q | q
      · rw [q]; exact Heap.lt_size hz
      · rw [q]; exact Heap.lt_size hTI
      · rw [q]; exact Heap.lt_size hTO
      · rw [q]; obtain ⟨_, e, _⟩ := k.cell_obj h1; exact Heap.lt_size e
      · rw [q]; obtain ⟨_, e, _⟩ := k2.cell_obj h2; exact Heap.lt_size e
    refine Wk.item i s _ _ (Nat.lt_min.mpr ⟨l1, l2⟩) ⟨hz, hTI, ⟨x0, y0, hTO⟩, ⟨h1, hs1⟩, ⟨h2, hs2⟩⟩ fun T vals h' tk hp hT htup hmid hk => ?_
    obtain ⟨u1, u2, hP1, hP2, rfl⟩ := hp
    obtain ⟨v1, e1, r1⟩ := hv1 i u1 hP1
    obtain ⟨v2, e2, r2⟩ := hv2 i u2 hP2
    rw [hx] at e1
    cases e1
    rw [hy] at e2
    cases e2
    have apT := Wk.apart i T h' hmid
    refine ⟨_, rfl, Wk.go elts kk tpos i T { s with heap := h', toks := tk } _ _ hmid fun h'' st'' hk2 => ?_⟩
    obtain ⟨hz', hTI', hTO', h1', h2'⟩ := st''
    have hT2 : h''.IsTuple T #[u1, u2] := htup.at fun o q => hk2 T o apT q
    have new : ObjOk X.prog X.w (upd H T (.tup [x, y])) h'' T (.tup [x, y]) := ⟨by show 2 ≤ sizeLine; decide, [u1, u2], .cons r1 (.cons r2 .nil), hT2⟩
    have I1 : Inv X pins σ (upd H T (.tup [x, y])) { s with heap := h'', toks := tk } :=
      I.turnedNew (ch := [z, TI, TO, i1, i2]) (fun b ob hb q => hk2 b ob (fun m => hb (wfp b m)) (hk b ob (fun m => hb (wfp b m)) q)) hf hT new
    refine ⟨.ref T, _, I1, rfl, ⟨T, x, y, rfl, I.hok.fresh hT, rfl, fun zs hz' => by rw [k.inj I hz' hqx]; exact hx, fun zs hz' => by rw [k2.inj I hz' hqy]; exact hy⟩, ⟨hz', hTI', hTO', h1'.1, h2'.1⟩, fun b hb => ?_⟩
    rw [upd_ne (Nat.ne_of_lt (Nat.lt_of_lt_of_le (hlt b hb) hT))]
    exact (hf b hb).1
  done := by
    intro X hP hw hK hc i pins s σ H E I hf st hg
    subst hP hw hK
    obtain ⟨hz, hTI, ⟨x0, y0, hTO⟩, h1, h2⟩ := st
    obtain ⟨xs, ys, hqx, hqy, hi⟩ := hg
    obtain ⟨P1, src1, hs1, D1, hv1, _⟩ := k.draws I hqx (A := X.A.in1) (I.ok.hd hc) ap1
    obtain ⟨P2, src2, hs2, D2, hv2, _⟩ := k2.draws I hqy (A := X.A.in1) (I.ok.hd hc) ap2
    have Wk := WalksT.zipD2 Sp D1 D2
    subst hi
    refine Wk.done s _ _ ⟨hz, hTI, ⟨x0, y0, hTO⟩, ⟨h1, hs1⟩, ⟨h2, hs2⟩⟩ fun h' tk hk => ⟨rfl, I.turnedL (t' := tk) (ch := [z, TI, TO, i1, i2]) (fun b o hb q => hk b o (fun m => hb ?_) q) hf⟩
    simp only [List.mem_cons, List.not_mem_nil, or_false] at m ⊢
    rcases m with q | q | q | q
    · exact .inl q
    · exact .inr (.inr (.inl q))
    · exact .inr (.inr (.inr (.inl q)))
    · exact .inr (.inr (.inr (.inr q)))
  self := fun A i s Q E st h => wpAny_pyIter_zip st.1 h
def iZipS (K : PySem.W.Frag) (ta : TA) : TI := fun σ H R => ta σ H fun vs H1 => ∃ x y, vs = [x, y] ∧ SrcOf K H1 x fun k => SrcOf K H1 y fun k2 => R (ItZ K k k2) H1
theorem fp_lt (k : SK) {N it : Addr} (hap : k.apart N) (h : ∀ b, N ≤ b → k.apart b) (hi : it = N ∨ it = N + 1) : ∀ b ∈ k.fp it, b = it ∨ b < N := by
  intro b hb
  cases k with
  | l a =>
    simp only [SK.fp, List.mem_cons, List.not_mem_nil, or_false] at hb
    rcases hb with q | q
    · exact .inl q
    · exact .inr (by subst q; exact Nat.lt_of_not_le fun z => h b z rfl)
  | t a =>
    simp only [SK.fp, List.mem_cons, List.not_mem_nil, or_false] at hb
    rcases hb with q | q
    · exact .inl q
    · exact .inr (by subst q; exact Nat.lt_of_not_le fun z => h b z rfl)
  | s x tk =>
    simp only [SK.fp, List.mem_cons, List.not_mem_nil, or_false] at hb
    exact .inl hb
theorem sep_nat (N : Nat) : N + 2 ≠ N + 4 ∧ N + 3 ≠ N + 4 ∧ N + 2 ≠ N + 3 ∧ N + 2 ≠ N ∧ N + 4 ≠ N ∧ N + 3 ≠ N ∧ N + 2 ≠ N + 1 ∧ N + 4 ≠ N + 1 ∧ N + 3 ≠ N + 1 ∧ N ≠ N + 1 ∧ ¬ N + 4 < N ∧ ¬ N + 3 < N ∧ ¬ N + 1 < N ∧ ¬ N < N := by omega
theorem pi_zipS {X : Cx} {e e2 : Expr} {ta : TA} {p pos tpos : Pos} {elts : List Expr} {kk : Nat} (hc : X.calm = true) (hg : Gl X "zip") (hm : X.mg "zip" = none) (ha : PA X [e, e2] ta)
    (hs : starEach [e, e2] X.env = (false, eval e X.env) :: starEach [e2] X.env := by rfl) (hpl : (backTo pos (starEach [e2] X.env)).any (·.1) = false := by rfl) :
    PI X (.Tuple elts kk tpos) (.Call (.Name "zip" p) [e, e2] [] pos) (iZipS X.K ta) := by
  refine ⟨fun pins s σ H R I h => ?_⟩
  refine Call_ (ld_blt I hg hm PyProof.Rows.boot_zip (PyProof.Rows.callWith_type1 (thn (ha.run pos pins s σ H _ I h) fun us s1 ⟨vs, H1, I1, r1, q1⟩ => ?_) hs hpl))
  obtain ⟨x, y, ex, q⟩ := q1
  subst ex
  obtain ⟨u1, u2, rfl, ru1, ru2⟩ := vals2 r1
  obtain ⟨k, xs, rfl, hv1, hR1, hap1⟩ := SrcOf.get I1 ru1 q
  obtain ⟨k2, ys, rfl, hv2, hR2, hap2⟩ := SrcOf.get I1 ru2 hR1
  obtain ⟨_, src1, hs1, _, _, B1⟩ := k.draws I1 hv1 (A := X.A.in1) (I1.ok.hd hc) (hap1 s1.heap.objs.size (Nat.le_refl _))
  obtain ⟨_, src2, hs2, _, _, B2⟩ := k2.draws I1 hv2 (A := X.A.in1) (I1.ok.hd hc) (hap2 s1.heap.objs.size (Nat.le_refl _))
  refine zip_begins2 B1 B2 hs1 hs2 fun h' hz hTI hTO h1 h2 hsz hk => wpAny_pyIter_zip hz ?_
  have I2 : Inv X pins σ H1 { s1 with heap := h' } := I1.kept (t' := s1.toks) hk
  have f1 := fp_lt k (it := s1.heap.objs.size) (hap1 _ (Nat.le_refl _)) hap1 (.inl rfl)
  have f2 := fp_lt k2 (it := s1.heap.objs.size + 1) (hap2 _ (Nat.le_refl _)) hap2 (.inr rfl)
  obtain ⟨n1, n2, n3, n4, n5, n6, n7, n8, n9, n10, n11, n12, n13, n14⟩ := sep_nat s1.heap.objs.size
  have Sp : ZipSep2 (s1.heap.objs.size + 4) (s1.heap.objs.size + 2) (s1.heap.objs.size + 3) s1.heap.objs.size (s1.heap.objs.size + 1) (k.fp s1.heap.objs.size) (k2.fp (s1.heap.objs.size + 1)) :=
    { TIz := n1, TOz := n2, TITO := n3, TIi1 := n4, mem1 := k.mem _, zf1 := fun m => (f1 _ m).elim n5 n11, Tf1 := fun m => (f1 _ m).elim n6 n12, TIi2 := n7, mem2 := k2.mem _, zf2 := fun m => (f2 _ m).elim n8 n11,
      Tf2 := fun m => (f2 _ m).elim n9 n12, sep1_2 := fun m => (f2 _ m).elim n10 n14, sep2_1 := fun m => (f1 _ m).elim (Ne.symm n10) n13 }
  refine ⟨s1.heap.objs.size + 4, [s1.heap.objs.size + 4, s1.heap.objs.size + 2, s1.heap.objs.size + 3, s1.heap.objs.size, s1.heap.objs.size + 1], _, _, H1, rfl, I2, turn_zipS Sp (hap1 _ (Nat.le_refl _)) (hap2 _ (Nat.le_add_right _ _)), ⟨hz, hTI, ⟨_, _, hTO⟩, k.cell_0 h1, k2.cell_0 h2⟩, fun c hcm => ?_, hR2⟩
  have e' : c = s1.heap.objs.size + 4 ∨ c = s1.heap.objs.size + 2 ∨ c = s1.heap.objs.size + 3 ∨ c = s1.heap.objs.size ∨ c = s1.heap.objs.size + 1 := by simpa using hcm
  have hle : s1.heap.objs.size ≤ c := by
    rcases e' with z | z | z | z | z
    · rw [z]; exact Nat.le_add_right _ _
    · rw [z]; exact Nat.le_add_right _ _
    · rw [z]; exact Nat.le_add_right _ _
    · rw [z]; exact Nat.le_refl _
    · rw [z]; exact Nat.le_add_right _ _
  exact I1.fpOk hle (I1.hok.fresh hle)
/-- a list, a tuple, a text walked -/
def ItS (K : PySem.W.Frag) : SK → It
  | .l a => Itl K a
  | .t a => Itt K a
  | .s x _ => Its x
def iSeqS (K : PySem.W.Frag) (te : TE) : TI := fun σ H R => te σ H fun x H1 => SrcOf K H1 x fun k => R (ItS K k) H1
theorem pi_seqS {X : Cx} {tg l : Expr} {tl : TE} (hl : PE X l tl) : PI X tg l (iSeqS X.K tl) := by
  refine ⟨fun pins s σ H R I h => ?_⟩
  refine thn (hl.run pins s σ H _ I h) fun v s1 ⟨x, H1, I1, r1, q1⟩ => ?_
  rcases q1 with ⟨a, xs, e, hq, q⟩ | ⟨a, xs, e, hq, q⟩ | ⟨z, e, q⟩
  · subst e
    cases r1
    obtain ⟨its, rv, p, hz⟩ := I1.list hq
    refine wpAny_pyIter_list p.isList ?_
    refine ⟨s1.heap.objs.size, [s1.heap.objs.size], _, _, H1, rfl, I1.kept (t' := s1.toks) fun b o e => Heap.get?_push_of_some _ e, turn_list a _, ⟨_, Heap.get?_push_size _ rfl, rfl, rfl⟩, fun b hb => ?_, q⟩
    have e : b = s1.heap.objs.size := by simpa using hb
    subst e
    exact I1.fpOk (Nat.le_refl _) (I1.hok.fresh (Nat.le_refl _))
  · subst e
    cases r1
    obtain ⟨its, rv, p, hz⟩ := I1.tuple hq
    refine wpAny_pyIter_tuple (show s1.heap.IsTuple a its.toArray from p) ?_
    refine ⟨s1.heap.objs.size, [s1.heap.objs.size], _, _, H1, rfl, I1.kept (t' := s1.toks) fun b o e => Heap.get?_push_of_some _ e, turn_tuple a _, ⟨_, Heap.get?_push_size _ rfl, rfl, rfl⟩, fun b hb => ?_, q⟩
    have e : b = s1.heap.objs.size := by simpa using hb
    subst e
    exact I1.fpOk (Nat.le_refl _) (I1.hok.fresh (Nat.le_refl _))
  · subst e
    obtain ⟨t, rfl⟩ := r1
    have q := q t
    cases ha : z.cps.all (· < 128)
    · exact wpAny_pyIter_wide ha (pi_one (tk := s1.toks) I1 _ (turn_str _ z t "str_iterator" (.inr rfl)) ⟨_, Heap.get?_push_size _ rfl, rfl, rfl⟩ q)
    · exact wpAny_pyIter_ascii ha (pi_one (tk := s1.toks) I1 _ (turn_str _ z t "str_ascii_iterator" (.inl rfl)) ⟨_, Heap.get?_push_size _ rfl, rfl, rfl⟩ q)
end DD
namespace DD
open PySem PySem.Spec PyProof.Rows L2

/-! ### tests -/
section
variable {S : Type} {wd : Wd S} {X : Cx} {C : Dc wd} {al bl cl : List Nat} {a b c e : Expr} {rest : List Expr} {m ma mb mc : En S D} {t u : En S Bool} {pos : Pos}
def tVal (m : En S D) : En S Bool := fun env => M.bind (m env) fun d => match d with
  | .bl b => M.ret b
  | _ => M.fail
theorem tval_imp (σ : Sg) (H : Hp) (Q : Bool → Hp → Prop) (h : lT (gx X) C (tVal m) σ H Q) : lE (gx X) C al m σ H fun x H' => ∃ k, x = .bl k ∧ Q k H' := by
  obtain ⟨env, s, R, h⟩ := h
  unfold tVal at h
  refine ⟨env, s, R, bindE R famT h fun d s1 x H1 R1 m1 q1 h1 => ?_⟩
  cases d with
  | bl k =>
    simp only [Rep] at q1
    exact ⟨k, q1, h1 H1 Mv.refl R1.rel⟩
  | _ => exact False.elim h1
theorem dt_val (h : DE X C e al m) (he : ∀ whole, isTrue e X.env whole = (do let v ← whole; standAt e.pos; holding [v] (truthy v)) := by intro _; rfl) : DT X C e (tVal m) :=
  ⟨PT_imp (pt_val h.run he) fun σ H Q q => tval_imp σ H Q q⟩
theorem dt_cmp {op : CmpOp} {r : R2} {f : D → D → Option D} (ho : OpR X (compareOp op) r) (hv : V2 X.K wd r f) (ha : DE X C a al ma) (hb : DE X C b bl mb) (hm : behindInMarks op b = false) : DT X C (.Compare a [op] [b] pos) (tVal (eOp2 f ma mb)) :=
  ⟨PT_imp (pt_cmpR ho ha.run hb.run hm) fun σ H Q q => op2_imp hv σ H _ (tval_imp (al := al ++ bl) σ H Q q)⟩
/-- a op b op' c -/
def eChain (f f' : D → D → Option D) (ma mb mc : En S D) : En S D := fun env => M.bind (ma env) fun d => M.bind (mb env) fun e => match f d e with
  | some (.bl true) => M.bind (mc env) fun k => M.ofO (f' e k)
  | some (.bl false) => M.ret (.bl false)
  | _ => M.fail
theorem chain_imp {r r' : R2} {f f' : D → D → Option D} (hv : V2 X.K wd r f) (hv' : V2 X.K wd r' f') (σ : Sg) (H : Hp) (Q : VK) (h : lE (gx X) C (al ++ (bl ++ cl)) (eChain f f' ma mb mc) σ H Q) :
    tChain r r' (lE (gx X) C al ma) (lE (gx X) C bl mb) (lE (gx X) C cl mc) σ H Q := by
  obtain ⟨env, s, R, h⟩ := h
  unfold eChain at h
  refine ⟨env, s, R, bindE R famE h fun d s1 x H1 R1 m1 q1 h1 => ⟨env, s1, R1, bindE R1 famE h1 fun e s2 y H2 R2 m2 q2 h2 => ?_⟩⟩
  have q1' : Rep X.K (Ow C env σ (al ++ (bl ++ cl))) H2 d x := (q1.mv (Ext.ow R1 m2)).mv (Mv.sub (Ow.sub fun i hi => List.mem_append_left _ hi))
  have q2' : Rep X.K (Ow C env σ (al ++ (bl ++ cl))) H2 e y := q2.mv (Mv.sub (Ow.sub fun i hi => List.mem_append_right _ (List.mem_append_left _ hi)))
  have key : ∀ k, f d e = some (.bl k) → r x y H2 (fun z H3 => ∃ k', z = .bl k' ∧ (if k' = true then lE (gx X) C cl mc σ H3 (fun w' H4 => r' y w' H4 Q) else Q (.bl false) H3)) := by
    intro k ef
    refine hv _ H2 s2 x y d e _ _ R2.rel (fun a z => R2.here z) (fun a z => .inl (C.sub a z)) q1' q2' ef fun v H3 m3 r3 hz => ?_
    simp only [Rep] at hz
    refine ⟨k, hz, ?_⟩
    have R3 := R2.step m3 r3
    rw [ef] at h2
    cases k with
    | false =>
      rw [if_neg Bool.false_ne_true]
      exact (famE.mono m3 r3 h2) _ H3 Mv.refl r3 (by simp only [Rep])
    | true =>
      rw [if_pos rfl]
      refine ⟨env, s2, R3, bindE R3 famE (famE.mono m3 r3 h2) fun k s4 w' H4 R4 m4 q4 h4 => ?_⟩
      cases eg : f' e k with
      | none =>
        rw [eg] at h4
        exact False.elim h4
      | some z =>
        rw [eg] at h4
        exact hv' _ H4 s4 y w' e k z Q R4.rel (fun a z => R4.here z) (fun a z => .inl (C.sub a z)) ((q2'.mv (Ext.ow R2 m3)).mv (Ext.ow R3 m4)) (q4.mv (Mv.sub (Ow.sub fun i hi => List.mem_append_right _ (List.mem_append_right _ hi)))) eg
          fun v H' m r q => h4 v H' m r q
  cases ef : f d e with
  | none => rw [ef] at h2; exact False.elim h2
  | some z =>
    cases z with
    | bl k => exact key k ef
    | _ => rw [ef] at h2; exact False.elim h2
theorem de_chain {op op' : CmpOp} {r r' : R2} {f f' : D → D → Option D} (ho : OpR X (compareOp op) r) (ho' : OpR X (compareOp op') r') (hv : V2 X.K wd r f) (hv' : V2 X.K wd r' f') (ha : DE X C a al ma) (hb : DE X C b bl mb) (hc : DE X C c cl mc)
    (hm : lastMarks [op, op'] [b, c] = false := by with_unfolding_all rfl) : DE X C (.Compare a [op, op'] [b, c] pos) (al ++ (bl ++ cl)) (eChain f f' ma mb mc) := ⟨PE_imp (pe_chain ho ho' ha.run hb.run hc.run hm) (chain_imp hv hv')⟩
theorem dt_chain {op op' : CmpOp} {r r' : R2} {f f' : D → D → Option D} (ho : OpR X (compareOp op) r) (ho' : OpR X (compareOp op') r') (hv : V2 X.K wd r f) (hv' : V2 X.K wd r' f') (ha : DE X C a al ma) (hb : DE X C b bl mb) (hc : DE X C c cl mc)
    (hm : lastMarks [op, op'] [b, c] = false := by with_unfolding_all rfl) : DT X C (.Compare a [op, op'] [b, c] pos) (tVal (eChain f f' ma mb mc)) :=
  ⟨PT_imp (pt_chain ho ho' ha.run hb.run hc.run hm) fun σ H Q q => chain_imp hv hv' σ H _ (tval_imp (al := al ++ (bl ++ cl)) σ H Q q)⟩
structure DW (X : Cx) (C : Dc wd) (e : Expr) (m : En S Bool) : Prop where
  run : PW X e (lT (gx X) C m)
theorem PW_imp {t t' : TT} (h : PW X e t) (i : ∀ σ H Q, t' σ H Q → t σ H Q) : PW X e t' := ⟨fun wh pins s σ H Q I q => h.run wh pins s σ H Q I (i σ H Q q)⟩
theorem DW.dt (h : DW X C e t) : DT X C e t := ⟨h.run.pt⟩
def tAnd2 (t u : En S Bool) : En S Bool := fun env => M.bind (t env) fun b => if b = true then u env else M.ret false
def tOr2 (t u : En S Bool) : En S Bool := fun env => M.bind (t env) fun b => if b = true then M.ret true else u env
def tNot1 (t : En S Bool) : En S Bool := fun env => M.bind (t env) fun b => M.ret (!b)
theorem dw_and1 (ha : DT X C a t) : DW X C (.BoolOp .And [a] pos) t := ⟨pw_and1 ha.run⟩
theorem dw_or1 (ha : DT X C a t) : DW X C (.BoolOp .Or [a] pos) t := ⟨pw_or1 ha.run⟩
theorem dw_and (ha : DT X C a t) (hb : DW X C (.BoolOp .And (b :: rest) pos) u) : DW X C (.BoolOp .And (a :: b :: rest) pos) (tAnd2 t u) := by
  refine ⟨PW_imp (pw_and ha.run hb.run) fun σ H Q ⟨env, s, R, h⟩ => ?_⟩
  unfold tAnd2 at h
  refine ⟨env, s, R, bindT R famT h fun k s1 H1 R1 m1 h1 => ?_⟩
  cases k with
  | true => rw [if_pos rfl] at h1 ⊢; exact ⟨env, s1, R1, h1⟩
  | false => rw [if_neg Bool.false_ne_true] at h1 ⊢; exact h1 H1 Mv.refl R1.rel
theorem dw_or (ha : DT X C a t) (hb : DW X C (.BoolOp .Or (b :: rest) pos) u) : DW X C (.BoolOp .Or (a :: b :: rest) pos) (tOr2 t u) := by
  refine ⟨PW_imp (pw_or ha.run hb.run) fun σ H Q ⟨env, s, R, h⟩ => ?_⟩
  unfold tOr2 at h
  refine ⟨env, s, R, bindT R famT h fun k s1 H1 R1 m1 h1 => ?_⟩
  cases k with
  | true => rw [if_pos rfl] at h1 ⊢; exact h1 H1 Mv.refl R1.rel
  | false => rw [if_neg Bool.false_ne_true] at h1 ⊢; exact ⟨env, s1, R1, h1⟩
theorem dt_not (ha : DT X C a t) : DT X C (.UnaryOp .Not a pos) (tNot1 t) := by
  refine ⟨PT_imp (pt_not ha.run) fun σ H Q ⟨env, s, R, h⟩ => ?_⟩
  unfold tNot1 at h
  exact ⟨env, s, R, bindT R famT h fun k s1 H1 R1 m1 h1 => h1 H1 Mv.refl R1.rel⟩
/-! .. as values -/
def eAnd2 (ma mb : En S D) : En S D := fun env => M.bind (ma env) fun d => match d with
  | .bl true => mb env
  | .bl false => M.ret (.bl false)
  | _ => M.fail
def eOr2 (ma mb : En S D) : En S D := fun env => M.bind (ma env) fun d => match d with
  | .bl true => M.ret (.bl true)
  | .bl false => mb env
  | _ => M.fail
def eNot1 (ma : En S D) : En S D := fun env => M.bind (ma env) fun d => match d with
  | .bl b => M.ret (.bl (!b))
  | _ => M.fail
theorem de_one {op} (h : DE X C a al m) : DE X C (.BoolOp op [a] pos) al m := ⟨pe_one h.run⟩
theorem ResE.sub {g : Gx} {W W' : Set'} {H : Hp} {o : Out S D} {Q : VK} (s : ∀ a, W' a → W a) (h : ResE g C W' H o Q) : ResE g C W H o Q := by
  cases o with
  | ok d s' => exact fun v H' m r q => h v H' m r (q.mv (Mv.sub s))
  | ex c fs s' => exact h
  | bad => exact h
theorem de_and (ha : DE X C a al ma) (hb : DE X C (.BoolOp .And (b :: rest) pos) bl mb) : DE X C (.BoolOp .And (a :: b :: rest) pos) bl (eAnd2 ma mb) := by
  refine ⟨PE_imp (pe_and ha.run hb.run) fun σ H Q ⟨env, s, R, h⟩ => ?_⟩
  unfold eAnd2 at h
  refine ⟨env, s, R, bindE R famE h fun d s1 x H1 R1 m1 q1 h1 => ?_⟩
  cases d with
  | bl k =>
    simp only [Rep] at q1
    refine ⟨k, q1, ?_⟩
    cases k with
    | true => rw [if_pos rfl]; exact ⟨env, s1, R1, h1⟩
    | false => rw [if_neg Bool.false_ne_true]; exact h1 _ H1 Mv.refl R1.rel (by simp only [Rep])
  | _ => exact False.elim h1
theorem de_or (ha : DE X C a al ma) (hb : DE X C (.BoolOp .Or (b :: rest) pos) bl mb) : DE X C (.BoolOp .Or (a :: b :: rest) pos) bl (eOr2 ma mb) := by
  refine ⟨PE_imp (pe_or ha.run hb.run) fun σ H Q ⟨env, s, R, h⟩ => ?_⟩
  unfold eOr2 at h
  refine ⟨env, s, R, bindE R famE h fun d s1 x H1 R1 m1 q1 h1 => ?_⟩
  cases d with
  | bl k =>
    simp only [Rep] at q1
    refine ⟨k, q1, ?_⟩
    cases k with
    | true => rw [if_pos rfl]; exact h1 _ H1 Mv.refl R1.rel (by simp only [Rep])
    | false => rw [if_neg Bool.false_ne_true]; exact ⟨env, s1, R1, h1⟩
  | _ => exact False.elim h1
theorem de_not (ha : DE X C a al ma) : DE X C (.UnaryOp .Not a pos) [] (eNot1 ma) := by
  refine ⟨PE_imp (pe_not ha.run) fun σ H Q ⟨env, s, R, h⟩ => ?_⟩
  unfold eNot1 at h
  refine ⟨env, s, R, bindE R famE h fun d s1 x H1 R1 m1 q1 h1 => ?_⟩
  cases d with
  | bl k =>
    simp only [Rep] at q1
    exact ⟨k, q1, h1 _ H1 Mv.refl R1.rel (by simp only [Rep])⟩
  | _ => exact False.elim h1
def eIf (t : En S Bool) (ma mb : En S D) : En S D := fun env => M.bind (t env) fun k => if k = true then ma env else mb env
theorem de_if (hc : DT X C c t) (ha : DE X C a al ma) (hb : DE X C b bl mb) : DE X C (.IfExp c a b pos) (al ++ bl) (eIf t ma mb) := by
  refine ⟨PE_imp (pe_ifExp hc.run ha.run hb.run) fun σ H Q ⟨env, s, R, h⟩ => ?_⟩
  unfold eIf at h
  refine ⟨env, s, R, bindT R famE h fun k s1 H1 R1 m1 h1 => ?_⟩
  cases k with
  | true =>
    rw [if_pos rfl] at h1 ⊢
    refine ⟨env, s1, R1, ?_⟩
    cases e : ma env s1 with
    | ok d s' => rw [e] at h1; exact fun v H' m r q => h1 v H' m r (q.mv (Mv.sub (Ow.sub fun i hi => List.mem_append_left _ hi)))
    | ex c fs s' => rw [e] at h1; exact h1
    | bad => rw [e] at h1; exact h1
  | false =>
    rw [if_neg Bool.false_ne_true] at h1 ⊢
    refine ⟨env, s1, R1, ?_⟩
    cases e : mb env s1 with
    | ok d s' => rw [e] at h1; exact fun v H' m r q => h1 v H' m r (q.mv (Mv.sub (Ow.sub fun i hi => List.mem_append_right _ hi)))
    | ex c fs s' => rw [e] at h1; exact h1
    | bad => rw [e] at h1; exact h1
end

/-! ### slots are set, frozen -/
section
variable {S : Type} {wd : Wd S} {g : Gx} {C : Dc wd} {env env' : List Sl} {σ σ' : Sg} {H H' H1 : Hp} {s s' : S} {al bl : List Nat} {a p : Addr} {d d' : D} {v : V} {i j : Nat} {W : Set'}
theorem set_get {α : Type} {l : List α} {i j : Nat} {x y : α} (h : (l.set i x)[j]? = some y) : (i = j ∧ y = x ∧ i < l.length) ∨ (i ≠ j ∧ l[j]? = some y) := by
  by_cases e : i = j
  · subst e
    by_cases hl : i < l.length
    · rw [List.getElem?_set_self hl] at h
      exact .inl ⟨rfl, (Option.some.inj h).symm, hl⟩
    · rw [List.getElem?_eq_none (by simpa using hl)] at h
      cases h
  · rw [List.getElem?_set_ne e] at h
    exact .inr ⟨e, h⟩
theorem Ow.setfz (hl : env.length = σ.length) : ∀ a, Ow C (env.set i (.fz d)) (σ.set i (some v)) al a → Ow C env σ al a := by
  rintro a (z | ⟨j, e, h1, h2, h3⟩)
  · exact .inl z
  · rcases set_get h1 with ⟨_, z, _⟩ | ⟨ne, h1⟩
    · cases z
    · rw [List.getElem?_set_ne ne] at h3
      exact .inr ⟨j, e, h1, h2, h3⟩
theorem RelE.setfz (R : RelE g C env σ H s) (h : Rep g.K (Ow C env σ []) H d v) : RelE g C (env.set i (.fz d)) (σ.set i (some v)) H s where
  len := by rw [List.length_set, List.length_set]; exact R.len
  ext := R.ext
  rel := R.rel
  fz := fun j e q => by
    rcases set_get q with ⟨rfl, z, hi⟩ | ⟨ne, q⟩
    · cases z
      exact ⟨v, List.getElem?_set_self (by rw [← R.len]; exact hi), h.mv (Mv.sub (Ow.setfz R.len))⟩
    · obtain ⟨u, e1, e2⟩ := R.fz j e q
      exact ⟨u, by rw [List.getElem?_set_ne ne]; exact e1, e2.mv (Mv.sub (Ow.setfz R.len))⟩
  ow := fun j e q => by
    rcases set_get q with ⟨_, z, _⟩ | ⟨ne, q⟩
    · cases z
    · obtain ⟨u, e1, e2, e3⟩ := R.ow j e q
      exact ⟨u, by rw [List.getElem?_set_ne ne]; exact e1, e2.mv (Mv.sub (Ow.setfz R.len)) rfl, e3⟩
  inj := fun j k e f b q1 q2 q3 q4 => by
    rcases set_get q1 with ⟨_, z, _⟩ | ⟨n1, q1⟩
    · cases z
    · rcases set_get q2 with ⟨_, z, _⟩ | ⟨n2, q2⟩
      · cases z
      · rw [List.getElem?_set_ne n1] at q3
        rw [List.getElem?_set_ne n2] at q4
        exact R.inj j k e f b q1 q2 q3 q4
/-- an own object is one's own no longer -/
def frz1 (i : Nat) (env : List Sl) : List Sl := match env[i]? with
  | some (.ow d) => if d.isSt = true then env.set i .no else env.set i (.fz d)
  | _ => env
def frz : List Nat → List Sl → List Sl
  | [], env => env
  | i :: al, env => frz al (frz1 i env)
def esc (al : List Nat) (d : D) (env : List Sl) : List Sl := match al with
  | [] => env
  | al => if d.hard = true then env else frz al env
def escI (al : List Nat) (d : D) (env : List Sl) : List Sl := match al with
  | [] => env
  | al => if d.hardIn = true then env else frz al env
theorem esc_nil : esc [] d env = env := rfl
theorem escI_nil : escI [] d env = env := rfl
theorem frz1_get {i j : Nat} {env : List Sl} {x : Sl} (h : (frz1 i env)[j]? = some x) : (i ≠ j ∧ env[j]? = some x) ∨ (i = j ∧ ((∃ d, env[j]? = some (.ow d) ∧ d.isSt = false ∧ x = .fz d) ∨ (∃ d, env[j]? = some (.ow d) ∧ x = .no) ∨ (env[j]? = some x ∧ ∀ d, x ≠ .ow d))) := by
  unfold frz1 at h
  cases e : env[i]? with
  | none =>
    rw [e] at h
    by_cases ij : i = j
    · subst ij
      rw [e] at h
      cases h
    · exact .inl ⟨ij, h⟩
  | some y =>
    rw [e] at h
    cases y with
    | ow d =>
      dsimp only at h
      split at h
      · rcases set_get h with ⟨rfl, z, _⟩ | ⟨ne, q⟩
        · exact .inr ⟨rfl, .inr (.inl ⟨d, e, z⟩)⟩
        · exact .inl ⟨ne, q⟩
      · rename_i hs
        rcases set_get h with ⟨rfl, z, _⟩ | ⟨ne, q⟩
        · exact .inr ⟨rfl, .inl ⟨d, e, by simpa using hs, z⟩⟩
        · exact .inl ⟨ne, q⟩
    | fz d =>
      by_cases ij : i = j
      · subst ij
        refine .inr ⟨rfl, .inr (.inr ⟨h, fun d z => ?_⟩)⟩
        have h' : env[i]? = some x := h
        rw [e, z] at h'
        cases h'
      · exact .inl ⟨ij, h⟩
    | no =>
      by_cases ij : i = j
      · subst ij
        refine .inr ⟨rfl, .inr (.inr ⟨h, fun d z => ?_⟩)⟩
        have h' : env[i]? = some x := h
        rw [e, z] at h'
        cases h'
      · exact .inl ⟨ij, h⟩
theorem frz1_len : (frz1 i env).length = env.length := by
  unfold frz1
  split
  · split <;> simp
  · rfl
theorem frz1_ow (h : (frz1 i env)[j]? = some (.ow d)) : i ≠ j ∧ env[j]? = some (.ow d) := by
  rcases frz1_get h with q | ⟨_, ⟨e, _, _, z⟩ | ⟨e, _, z⟩ | ⟨_, n⟩⟩
  · exact q
  · cases z
  · cases z
  · exact (n d rfl).elim
theorem Ow.frz1 : ∀ a, Ow C (frz1 i env) σ al a → Ow C env σ (i :: al) a := by
  rintro a (z | ⟨j, e, h1, h2, h3⟩)
  · exact .inl z
  · obtain ⟨ne, q⟩ := frz1_ow h1
    exact .inr ⟨j, e, q, by simp only [List.mem_cons, not_or]; exact ⟨Ne.symm ne, h2⟩, h3⟩
theorem RelE.own_out (R : RelE g C env σ H s) (e : env[i]? = some (.ow d)) (q : σ[i]? = some (some (V.ref a))) : ¬ Ow C env σ (i :: al) a := by
  obtain ⟨b, qb, _, n, _⟩ := R.ow i d e
  rw [q] at qb
  cases qb
  rintro (z | ⟨j, e', h1, h2, h3⟩)
  · exact n z
  · have := R.inj i j d e' a e h1 q h3
    subst this
    simp at h2
theorem RelE.frz1 (R : RelE g C env σ H s) : RelE g C (frz1 i env) σ H s where
  len := by rw [frz1_len]; exact R.len
  ext := R.ext
  rel := R.rel
  fz := fun j e q => by
    have sub : ∀ a, Ow C (DD.frz1 i env) σ [] a → Ow C env σ [] a := fun a z => Ow.nil a (Ow.frz1 a z)
    rcases frz1_get q with ⟨_, q⟩ | ⟨rfl, ⟨d', h1, hs, z⟩ | ⟨_, _, z⟩ | ⟨q, _⟩⟩
    · obtain ⟨u, e1, e2⟩ := R.fz j e q
      exact ⟨u, e1, e2.mv (Mv.sub sub)⟩
    · cases z
      obtain ⟨b, qb, t, n, _⟩ := R.ow i e h1
      refine ⟨_, qb, Top.rep (fun z => R.own_out h1 qb (Ow.frz1 b z)) (fun l z => by rw [z] at hs; cases hs) (t.mv (Mv.sub sub) rfl)⟩
    · cases z
    · obtain ⟨u, e1, e2⟩ := R.fz i e q
      exact ⟨u, e1, e2.mv (Mv.sub sub)⟩
  ow := fun j e q => by
    obtain ⟨_, q⟩ := frz1_ow q
    obtain ⟨u, e1, e2, e3⟩ := R.ow j e q
    exact ⟨u, e1, e2.mv (Mv.sub fun a z => Ow.nil a (Ow.frz1 a z)) rfl, e3⟩
  inj := fun j k e f b q1 q2 q3 q4 => R.inj j k e f b (frz1_ow q1).2 (frz1_ow q2).2 q3 q4
theorem RelE.frz : ∀ {al : List Nat} {env : List Sl}, RelE g C env σ H s → RelE g C (frz al env) σ H s
  | [], _, R => R
  | i :: al, _, R => RelE.frz (al := al) R.frz1
theorem Ow.frz : ∀ {al bl : List Nat} {env : List Sl} a, Ow C (frz al env) σ bl a → Ow C env σ (al ++ bl) a
  | [], _, _, a, z => z
  | i :: al, bl, env, a, z => Ow.frz1 a (Ow.frz (al := al) a z)
theorem RelE.esc (R : RelE g C env σ H s) : RelE g C (esc al d env) σ H s := by
  unfold DD.esc
  split
  · exact R
  · split
    · exact R
    · exact R.frz
theorem Ow.frz0 : ∀ a, Ow C (DD.frz al env) σ [] a → Ow C env σ al a := fun a z => by
  have := Ow.frz (al := al) (bl := []) a z
  rwa [List.append_nil] at this
theorem Ow.esc : ∀ a, Ow C (esc al d env) σ [] a → Ow C env σ [] a := by
  unfold DD.esc
  split
  · exact fun _ z => z
  · split
    · exact fun _ z => z
    · exact fun a z => Ow.nil a (Ow.frz0 a z)
theorem Rep.esc (h : Rep g.K (Ow C env σ al) H d v) : Rep g.K (Ow C (DD.esc al d env) σ []) H d v := by
  unfold DD.esc
  split
  · exact h
  · split
    · rename_i hh
      exact Rep.hard hh h
    · exact h.mv (Mv.sub Ow.frz0)
theorem RelE.escI (R : RelE g C env σ H s) : RelE g C (escI al d env) σ H s := by
  unfold DD.escI
  split
  · exact R
  · split
    · exact R
    · exact R.frz
theorem Ow.escI : ∀ a, Ow C (escI al d env) σ [] a → Ow C env σ [] a := by
  unfold DD.escI
  split
  · exact fun _ z => z
  · split
    · exact fun _ z => z
    · exact fun a z => Ow.nil a (Ow.frz0 a z)
theorem Top.escI {p : Addr} (h : Top g (fun a => Ow C env σ al a ∨ a = p) H d p) : Top g (fun a => Ow C (DD.escI al d env) σ [] a ∨ a = p) H d p := by
  unfold DD.escI
  split
  · exact h
  · split
    · rename_i hh
      exact Top.hard hh h
    · exact h.mv (Mv.sub fun a z => z.imp (Ow.frz0 a) id) rfl
/-- a new object of one's own at slot i -/
theorem RelE.setow (R : RelE g C env σ H s) (m : Ext C H H') (r : wd.rel s' H') (n : H p = none) (t : Top g (fun a => Ow C env σ [] a ∨ a = p) H' d p) :
    RelE g C (env.set i (.ow d)) (σ.set i (some (V.ref p))) H' s' ∧ Mv (Ow C env σ []) H (Ow C (env.set i (.ow d)) (σ.set i (some (V.ref p))) []) H' := by
  have sub : ∀ a, Ow C (env.set i (.ow d)) (σ.set i (some (V.ref p))) [] a → Ow C env σ [] a ∨ a = p := by
    rintro a (z | ⟨j, e, h1, h2, h3⟩)
    · exact .inl (.inl z)
    · rcases set_get h1 with ⟨rfl, z, hi⟩ | ⟨ne, h1⟩
      · rw [List.getElem?_set_self (by rw [← R.len]; exact hi)] at h3
        cases h3
        exact .inr rfl
      · rw [List.getElem?_set_ne ne] at h3
        exact .inl (.inr ⟨j, e, h1, h2, h3⟩)
  have mv : Mv (Ow C env σ []) H (Ow C (env.set i (.ow d)) (σ.set i (some (V.ref p))) []) H' := fun a o h =>
    ⟨fun nw => ⟨((m a o h).1 fun f => nw (.inl (C.sub a f))).1, fun z => (sub a z).elim nw fun e => by rw [e, n] at h; cases h⟩, (m a o h).2⟩
  refine ⟨⟨by rw [List.length_set, List.length_set]; exact R.len, R.ext.trans m, r, fun j e q => ?_, fun j e q => ?_, fun j k e f b q1 q2 q3 q4 => ?_⟩, mv⟩
  · rcases set_get q with ⟨_, z, _⟩ | ⟨ne, q⟩
    · cases z
    · obtain ⟨u, e1, e2⟩ := R.fz j e q
      exact ⟨u, by rw [List.getElem?_set_ne ne]; exact e1, e2.mv mv⟩
  · rcases set_get q with ⟨rfl, z, hi⟩ | ⟨ne, q⟩
    · cases z
      refine ⟨p, List.getElem?_set_self (by rw [← R.len]; exact hi), t.mv (Mv.sub sub) rfl, fun z => R.av z n, Ext.back R.ext R.rel n⟩
    · obtain ⟨u, e1, e2, e3, e4⟩ := R.ow j e q
      obtain ⟨o, eo, _⟩ := e2.some
      exact ⟨u, by rw [List.getElem?_set_ne ne]; exact e1, e2.mv mv (by rw [eo]; exact ((m u o eo).1 fun f => e3 (C.sub u f)).1), e3, e4⟩
  · have other : ∀ {k : Nat} {f : D}, env[k]? = some (Sl.ow f) → σ[k]? = some (some (V.ref p)) → False := fun {k f} h1 h2 => R.here (al := []) (.inr ⟨k, f, h1, by simp, h2⟩) n
    rcases set_get q1 with ⟨rfl, z1, hi⟩ | ⟨n1, q1⟩
    · rcases set_get q2 with ⟨rfl, z2, _⟩ | ⟨n2, q2⟩
      · rfl
      · rw [List.getElem?_set_self (by rw [← R.len]; exact hi)] at q3
        rw [List.getElem?_set_ne n2] at q4
        cases q3
        exact (other q2 q4).elim
    · rw [List.getElem?_set_ne n1] at q3
      rcases set_get q2 with ⟨rfl, z2, hi⟩ | ⟨n2, q2⟩
      · rw [List.getElem?_set_self (by rw [← R.len]; exact hi)] at q4
        cases q4
        exact (other q1 q3).elim
      · rw [List.getElem?_set_ne n2] at q4
        exact R.inj j k e f b q1 q2 q3 q4
/-- one's own object is changed -/
theorem RelE.upd {o : HO} (R : RelE g C env σ H s) (e : env[i]? = some (.ow d)) (q : σ[i]? = some (some (V.ref a))) (t : Top g (Ow C env σ []) (L2.upd H a o) d' a) :
    RelE g C (env.set i (.ow d')) σ (L2.upd H a o) s ∧ Mv (Ow C env σ []) H (Ow C (env.set i (.ow d')) σ []) (L2.upd H a o) := by
  have hi : i < env.length := (List.getElem?_eq_some_iff.mp e).1
  obtain ⟨b, qb, tb, nav, nhb⟩ := R.ow i d e
  rw [q] at qb
  cases qb
  obtain ⟨u0, eu0, nt0⟩ := tb.some
  have nf : ¬ wd.foot a := fun f => nav (C.sub a f)
  have sub : ∀ b, Ow C (env.set i (.ow d')) σ [] b → Ow C env σ [] b := by
    rintro b (z | ⟨j, f, h1, h2, h3⟩)
    · exact .inl z
    · rcases set_get h1 with ⟨rfl, z, _⟩ | ⟨ne, h1⟩
      · exact .inr ⟨i, d, e, h2, h3⟩
      · exact .inr ⟨j, f, h1, h2, h3⟩
  have wa : Ow C env σ [] a := .inr ⟨i, d, e, by simp, q⟩
  have mv : Mv (Ow C env σ []) H (Ow C (env.set i (.ow d')) σ []) (L2.upd H a o) := (Mv.wr eu0 nt0 wa).thin sub
  have rel : wd.rel s (L2.upd H a o) := wd.loc R.rel fun b f => upd_ne fun z => nf (z ▸ f)
  have ext : Mv wd.foot C.Hb wd.foot (L2.upd H a o) := fun b u h => by
    have ne : b ≠ a := fun z => by rw [z, nhb] at h; cases h
    obtain ⟨h1, h2⟩ := R.ext b u h
    exact ⟨fun n => ⟨by rw [upd_ne ne]; exact (h1 n).1, (h1 n).2⟩, fun z => by rw [upd_ne ne]; exact h2 z⟩
  refine ⟨⟨by rw [List.length_set]; exact R.len, ext, rel, fun j f h => ?_, fun j f h => ?_, fun j k f f' b q1 q2 q3 q4 => ?_⟩, mv⟩
  · rcases set_get h with ⟨_, z, _⟩ | ⟨ne, h⟩
    · cases z
    · obtain ⟨u, e1, e2⟩ := R.fz j f h
      exact ⟨u, e1, e2.mv mv⟩
  · rcases set_get h with ⟨rfl, z, _⟩ | ⟨ne, h⟩
    · cases z
      exact ⟨a, q, t.mv (Mv.sub sub) rfl, nav, nhb⟩
    · obtain ⟨u, e1, e2, e3, e4⟩ := R.ow j f h
      have una : u ≠ a := fun z => ne (R.inj i j d f a e h q (z ▸ e1))
      exact ⟨u, e1, e2.mv mv (upd_ne una), e3, e4⟩
  · have back : ∀ {j : Nat} {f : D}, (env.set i (Sl.ow d'))[j]? = some (Sl.ow f) → ∃ f' : D, env[j]? = some (Sl.ow f') := fun {j f} h => by
      rcases set_get h with ⟨rfl, _, _⟩ | ⟨_, h⟩
      · exact ⟨d, e⟩
      · exact ⟨f, h⟩
    obtain ⟨f1, g1⟩ := back q1
    obtain ⟨f2, g2⟩ := back q2
    exact R.inj j k f1 f2 b g1 g2 q3 q4
end
end DD
namespace DD
open PySem PySem.Spec PyProof.Rows L2
section
variable {S : Type} {wd : Wd S} {g : Gx} {C : Dc wd} {env env' : List Sl} {σ σ' : Sg} {H H' H1 : Hp} {s s' : S} {al bl : List Nat} {a p : Addr} {d d' : D} {v : V} {i j : Nat} {W W0 W1 : Set'}
theorem Post.mono {Dn : Ends} {H0 : Hp} {o : Out S Fl} (m : Mv W0 H0 W1 H1) (h : Post g C Dn W0 H0 o) : Post g C Dn W1 H1 o := by
  cases o with
  | ok f s =>
    cases f with
    | nx e => exact fun σ H R q => h σ H R (m.trans q)
    | bk e => exact fun σ H R q => h σ H R (m.trans q)
    | ct e => exact fun σ H R q => h σ H R (m.trans q)
    | rt d => exact h
  | ex c fs s => exact h
  | bad => exact h
end
section
variable {S : Type} {wd : Wd S} {X : Cx} {C : Dc wd} {al bl cl : List Nat} {a b c e : Expr} {st : Stmt} {rest sts : List Stmt} {m k : En S Fl} {me ma mb mc : En S D} {t u : En S Bool} {pos : Pos} {i : Nat} {x : Str}
def sNext : En S Fl := fun env => M.ret (.nx env)
def sSeq (m k : En S Fl) : En S Fl := fun env => M.bind (m env) fun f => match f with
  | .nx e => k e
  | f => M.ret f
theorem dss_nil : DSs X C [] sNext := ⟨PSs_imp pss_nil fun Dn σ H ⟨env, s, R, h⟩ => h σ H R Mv.refl⟩
theorem dss_cons (h1 : DS X C st m) (h2 : DSs X C rest k) : DSs X C (st :: rest) (sSeq m k) := by
  refine ⟨PSs_imp (pss_cons h1.run h2.run) fun Dn σ H ⟨env, s, R, h⟩ => ⟨env, s, R, ?_⟩⟩
  unfold sSeq M.bind at h
  cases e : m env s with
  | ok f s1 =>
    rw [e] at h
    cases f with
    | nx e1 => exact fun σ1 H1 R1 q => ⟨e1, s1, R1, Post.mono q h⟩
    | bk e1 => exact h
    | ct e1 => exact h
    | rt d => exact h
  | ex c fs s1 => rw [e] at h; exact h
  | bad => rw [e] at h; exact h
theorem dss_one (h1 : DS X C st m) : DSs X C [st] m := ⟨pss_one h1.run⟩
def sExpr (me : En S D) : En S Fl := fun env => M.bind (me env) fun _ => M.ret (.nx env)
theorem ds_expr (he : DE X C e al me) (hs : swapsWith e none pos.line X.env = pure false := by rfl) : DS X C (.Expr e pos) (sExpr me) := by
  refine ⟨PS_imp (ps_expr he.run hs) fun Dn σ H ⟨env, s, R, h⟩ => ?_⟩
  unfold sExpr at h
  exact ⟨env, s, R, bindE R famP h fun d s1 v H1 R1 m1 q h1 => h1 σ H1 R1 (Ext.ow R m1)⟩
def sRet (me : En S D) : En S Fl := fun env => M.bind (me env) fun d => M.ret (.rt d)
theorem ds_ret (he : DE X C e al me) : DS X C (.Return (some e) pos) (sRet me) := by
  refine ⟨PS_imp (ps_ret he.run) fun Dn σ H ⟨env, s, R, h⟩ => ?_⟩
  unfold sRet at h
  exact ⟨env, s, R, bindE R famP h fun d s1 v H1 R1 m1 q h1 => h1 v H1 R1.ext R1.rel (q.mv (Mv.sub fun a z => .inl z))⟩
def sRetN : En S Fl := fun _ => M.ret (.rt .non)
theorem ds_retN : DS X C (.Return none pos) sRetN := ⟨PS_imp ps_retN fun Dn σ H ⟨env, s, R, h⟩ => h .non H R.ext R.rel (by simp only [Rep])⟩
def sIf (t : En S Bool) (m k : En S Fl) : En S Fl := fun env => M.bind (t env) fun b => if b = true then m env else k env
theorem ds_if (hc : DT X C c t) (ha : DSs X C sts m) (hb : DSs X C rest k) : DS X C (.If c sts rest pos) (sIf t m k) := by
  refine ⟨PS_imp (ps_if hc.run ha.run hb.run) fun Dn σ H ⟨env, s, R, h⟩ => ?_⟩
  unfold sIf at h
  refine ⟨env, s, R, bindT R famP h fun b s1 H1 R1 m1 h1 => ?_⟩
  cases b with
  | true => rw [if_pos rfl] at h1 ⊢; exact ⟨env, s1, R1, Post.mono (Ext.ow R m1) h1⟩
  | false => rw [if_neg Bool.false_ne_true] at h1 ⊢; exact ⟨env, s1, R1, Post.mono (Ext.ow R m1) h1⟩
def sBrk : En S Fl := fun env => M.ret (.bk env)
def sCnt : En S Fl := fun env => M.ret (.ct env)
theorem ds_break : DS X C (.Break pos) sBrk := ⟨PS_imp ps_break fun Dn σ H ⟨env, s, R, h⟩ => h σ H R Mv.refl⟩
theorem ds_continue : DS X C (.Continue pos) sCnt := ⟨PS_imp ps_continue fun Dn σ H ⟨env, s, R, h⟩ => h σ H R Mv.refl⟩
theorem ds_pass : DS X C (.Pass pos) sNext := ⟨PS_imp ps_pass fun Dn σ H ⟨env, s, R, h⟩ => h σ H R Mv.refl⟩

/-! ### targets -/
/-- how a value stands that is stored: as data, or (weak) a tuple that only a tuple of targets takes apart -/
def RepB (K : PySem.W.Frag) (b : Bool) (W : Set') (H : Hp) (d : D) (v : V) : Prop := match b with
  | false => Rep K W H d v
  | true => ∃ a xs l, d = .tup l ∧ v = .ref a ∧ SqT K H a xs ∧ Reps K W H l xs
theorem repB_tup {K : PySem.W.Frag} {b : Bool} {W : Set'} {H : Hp} {l : List D} {v : V} (h : RepB K b W H (.tup l) v) : ∃ a xs, v = .ref a ∧ SqT K H a xs ∧ Reps K W H l xs := by
  cases b with
  | false =>
    have h : Rep K W H (.tup l) v := h
    simp only [Rep] at h
    obtain ⟨a, xs, e, t, r⟩ := h
    exact ⟨a, xs, e, t.seq, r⟩
  | true =>
    obtain ⟨a, xs, l', e, ev, t, r⟩ := h
    cases e
    exact ⟨a, xs, ev, t, r⟩
theorem RepB.sub {K : PySem.W.Frag} {b : Bool} {W W' : Set'} {H : Hp} {d : D} {v : V} (s : ∀ a, W' a → W a) (h : RepB K b W H d v) : RepB K b W' H d v := by
  cases b with
  | false => exact Rep.mv (Mv.sub s) h
  | true =>
    obtain ⟨a, xs, l', e, ev, t, r⟩ := h
    exact ⟨a, xs, l', e, ev, t, r.mv (Mv.sub s)⟩
def lG (g : Gx) (C : Dc wd) (b : Bool) (ts : List Nat) (t : D → List Sl → Option (List Sl)) : TG := fun v σ H Q => ∃ env s d env', RelE g C env σ H s ∧ RepB g.K b (Ow C env σ []) H d v ∧ t d env = some env' ∧
  ∀ σ', RelE g C env' σ' H s → (∀ a, Ow C env' σ' [] a → Ow C env σ [] a) → (σ'.length = σ.length ∧ ∀ j, j ∉ ts → σ'[j]? = σ[j]? ∧ env'[j]? = env[j]?) → (∀ (j : Nat) d, env'[j]? = some (Sl.ow d) → env[j]? = some (Sl.ow d)) → Q σ' H
structure DG (X : Cx) (C : Dc wd) (b : Bool) (tg : Expr) (ts : List Nat) (t : D → List Sl → Option (List Sl)) : Prop where
  run : PG X tg (lG (gx X) C b ts t)
def lGs (g : Gx) (C : Dc wd) (ts : List Nat) (t : List D → List Sl → Option (List Sl)) : TGs := fun vs σ H Q => ∃ env s ds env', RelE g C env σ H s ∧ Reps g.K (Ow C env σ []) H ds vs ∧ t ds env = some env' ∧
  ∀ σ', RelE g C env' σ' H s → (∀ a, Ow C env' σ' [] a → Ow C env σ [] a) → (σ'.length = σ.length ∧ ∀ j, j ∉ ts → σ'[j]? = σ[j]? ∧ env'[j]? = env[j]?) → (∀ (j : Nat) d, env'[j]? = some (Sl.ow d) → env[j]? = some (Sl.ow d)) → Q σ' H
structure DGs (X : Cx) (C : Dc wd) (es : List Expr) (ts : List Nat) (t : List D → List Sl → Option (List Sl)) : Prop where
  run : PGs X es (lGs (gx X) C ts t)
theorem PG_imp {tg : Expr} {t t' : TG} (h : PG X tg t) (i : ∀ v σ H Q, t' v σ H Q → t v σ H Q) : PG X tg t' := ⟨fun pins s σ H v u Q I r q => h.run pins s σ H v u Q I r (i v σ H Q q)⟩
theorem PGs_imp {es : List Expr} {t t' : TGs} (h : PGs X es t) (i : ∀ v σ H Q, t' v σ H Q → t v σ H Q) : PGs X es t' := ⟨fun pins s σ H v u Q I r q => h.run pins s σ H v u Q I r (i v σ H Q q)⟩
def tgN (i : Nat) : D → List Sl → Option (List Sl) := fun d env => some (env.set i (.fz d))
theorem dg_name (hN : X.N.Nodup) (hi : X.N[i]? = some x := by rfl) (hx : Loc X.env.scope x := by first | exact Or.inl rfl | exact Or.inr rfl) (hf : X.fn x = true ∨ X.env.scope.names.lookup x = some .local := by first | exact .inl rfl | exact .inr rfl) :
    DG X C false (.Name x pos) [i] (tgN i) := by
  refine ⟨PG_imp (pg_name hN hi hx hf) fun v σ H Q ⟨env, s, d, env', R, r, e, k⟩ => ?_⟩
  cases e
  refine k _ (R.setfz r) (Ow.setfz R.len) ⟨List.length_set, fun j hj => ?_⟩ fun j d' q => ?_
  · have ne : i ≠ j := fun z => hj (by simp [z])
    exact ⟨List.getElem?_set_ne ne, List.getElem?_set_ne ne⟩
  · rcases set_get q with ⟨_, z, _⟩ | ⟨_, q⟩
    · cases z
    · exact q
def tgNil : List D → List Sl → Option (List Sl) := fun ds env => match ds with
  | [] => some env
  | _ => none
def tgCons (t : D → List Sl → Option (List Sl)) (u : List D → List Sl → Option (List Sl)) : List D → List Sl → Option (List Sl) := fun ds env => match ds with
  | d :: r => (t d env).bind (u r)
  | [] => none
theorem dgs_nil : DGs X C [] [] tgNil := by
  refine ⟨PGs_imp pgs_nil fun v σ H Q ⟨env, s, ds, env', R, r, e, k⟩ => ?_⟩
  cases ds with
  | nil =>
    cases e
    simp only [Reps] at r
    exact ⟨r, k σ R (fun _ z => z) ⟨rfl, fun j _ => ⟨rfl, rfl⟩⟩ fun _ _ z => z⟩
  | cons _ _ => cases e
theorem dgs_cons {tg : Expr} {tgs : List Expr} {ts us : List Nat} {t : D → List Sl → Option (List Sl)} {u : List D → List Sl → Option (List Sl)} (h1 : DG X C false tg ts t) (h2 : DGs X C tgs us u)
    (hs : (assignEach (tg :: tgs) X.env).map (·.2) = assign tg X.env :: (assignEach tgs X.env).map (·.2) := by rfl) : DGs X C (tg :: tgs) (ts ++ us) (tgCons t u) := by
  refine ⟨PGs_imp (pgs_cons h1.run h2.run hs) fun v σ H Q ⟨env, s, ds, env', R, r, e, k⟩ => ?_⟩
  cases ds with
  | nil => cases e
  | cons d r' =>
    obtain ⟨env1, e1, e2⟩ := Option.bind_eq_some_iff.mp (show (t d env).bind (u r') = some env' from e)
    simp only [Reps] at r
    obtain ⟨v1, vr, rfl, q1, q2⟩ := r
    refine ⟨v1, vr, rfl, env, s, d, env1, R, q1, e1, fun σ1 R1 s1 f1 o1 => ⟨env1, s, r', env', R1, q2.mv (Mv.sub s1), e2, fun σ2 R2 s2 f2 o2 => k σ2 R2 (fun a z => s1 a (s2 a z)) ⟨f2.1.trans f1.1, fun j hj => ?_⟩ fun j d' q => o1 j d' (o2 j d' q)⟩⟩
    have n1 : j ∉ ts := fun z => hj (List.mem_append_left _ z)
    have n2 : j ∉ us := fun z => hj (List.mem_append_right _ z)
    exact ⟨(f2.2 j n2).1.trans (f1.2 j n1).1, (f2.2 j n2).2.trans (f1.2 j n1).2⟩
def tgTup (n : Nat) (u : List D → List Sl → Option (List Sl)) : D → List Sl → Option (List Sl) := fun d env => match d with
  | .tup l => if l.length = n then u l env else none
  | _ => none
theorem dg_tup {tgs : List Expr} {us : List Nat} {u : List D → List Sl → Option (List Sl)} {n kk : Nat} {w : Bool} (hc : X.calm = true) (h : DGs X C tgs us u) (hn : (assignEach tgs X.env).length = n := by rfl) (hst : (assignEach tgs X.env).findIdx? (·.1) = none := by rfl) :
    DG X C w (.Tuple tgs kk pos) us (tgTup n u) := by
  refine ⟨PG_imp (pg_tup hc h.run hn hst) fun v σ H Q ⟨env, s, d, env', R, r, e, k⟩ => ?_⟩
  cases d with
  | tup l =>
    have e' : (if l.length = n then u l env else none) = some env' := e
    split at e'
    · rename_i hl
      obtain ⟨a, xs, rfl, t, r1⟩ := repB_tup r
      exact ⟨a, xs, rfl, t, by rw [r1.length]; exact hl, env, s, l, env', R, r1, e', k⟩
    · cases e'
  | _ => cases e

/-! ### assignments -/
def sAsg (i : Nat) (al : List Nat) (me : En S D) : En S Fl := fun env => M.bind (me env) fun d => M.ret (.nx ((esc al d env).set i (.fz d)))
theorem Mv.toSub {g : Gx} {env env' : List Sl} {σ σ' : Sg} {H H' : Hp} {s : S} (R : RelE g C env σ H s) (m : Ext C H H') (h : ∀ a, Ow C env' σ' [] a → Ow C env σ [] a) : Mv (Ow C env σ []) H (Ow C env' σ' []) H' := (Ext.ow R m).thin h
theorem asg_post {σ : Sg} {H H1 : Hp} {env : List Sl} {s s1 : S} {d : D} {v : V} {Dn : Ends} (R : RelE (gx X) C env σ H s) (m1 : Ext C H H1) (R1 : RelE (gx X) C env σ H1 s1) (q : Rep X.K (Ow C env σ al) H1 d v)
    (h : Post (gx X) C Dn (Ow C env σ []) H (M.ret (.nx ((esc al d env).set i (.fz d))) s1)) : Dn.nx (σ.set i (some v)) H1 := by
  have R2 : RelE (gx X) C (esc al d env) σ H1 s1 := R1.esc
  refine h _ _ (R2.setfz (Rep.esc (g := gx X) q)) (Mv.toSub R m1 fun a z => Ow.esc a (Ow.setfz R2.len a z))
theorem ds_asg {py : Pos} (he : DE X C e al me) (hN : X.N.Nodup) (hi : X.N[i]? = some x := by rfl) (hx : Loc X.env.scope x := by first | exact Or.inl rfl | exact Or.inr rfl) (hs : swapsWith e (some (.Name x py)) pos.line X.env = pure false := by rfl)
    (hf : X.fn x = true ∨ X.env.scope.names.lookup x = some .local := by first | exact .inl rfl | exact .inr rfl) : DS X C (.Assign [.Name x py] e pos) (sAsg i al me) := by
  refine ⟨PS_imp (ps_set hN hi hx he.run hs hf) fun Dn σ H ⟨env, s, R, h⟩ => ?_⟩
  unfold sAsg at h
  exact ⟨env, s, R, bindE R famP h fun d s1 v H1 R1 m1 q h1 => asg_post R m1 R1 q h1⟩
def sAsgF (i : Nat) (al : List Nat) (me : En S D) : En S Fl := fun env => M.bind (me env) fun d => M.ret (.nx ((escI al d env).set i (.ow d)))
theorem asgF_post {σ : Sg} {H H1 : Hp} {env : List Sl} {s s1 : S} {d : D} {p : Addr} {Dn : Ends} (R : RelE (gx X) C env σ H s) (m1 : Ext C H H1) (r1 : wd.rel s1 H1) (n : H p = none) (q : Top (gx X) (fun a => Ow C env σ al a ∨ a = p) H1 d p)
    (h : Post (gx X) C Dn (Ow C env σ []) H (M.ret (.nx ((escI al d env).set i (.ow d))) s1)) : Dn.nx (σ.set i (some (.ref p))) H1 := by
  have R2 : RelE (gx X) C (escI al d env) σ H s := R.escI
  obtain ⟨R3, m3⟩ := R2.setow (i := i) m1 r1 n (Top.escI q)
  refine h _ _ R3 ((Mv.sub (H := H) fun a z => Ow.escI a z).trans m3)
theorem ds_asgF {py : Pos} (he : DF X C e al me) (hN : X.N.Nodup) (hi : X.N[i]? = some x := by rfl) (hx : Loc X.env.scope x := by first | exact Or.inl rfl | exact Or.inr rfl) (hs : swapsWith e (some (.Name x py)) pos.line X.env = pure false := by rfl)
    (hf : X.fn x = true ∨ X.env.scope.names.lookup x = some .local := by first | exact .inl rfl | exact .inr rfl) : DS X C (.Assign [.Name x py] e pos) (sAsgF i al me) := by
  refine ⟨PS_imp (ps_set hN hi hx he.run hs hf) fun Dn σ H ⟨env, s, R, h⟩ => ?_⟩
  unfold sAsgF at h
  exact ⟨env, s, R, bindF R famP h fun d s1 p H1 R1 m1 n q h1 => asgF_post R m1 R1.rel n q h1⟩
/-- a, b = e -/
def sAsgG (t : D → List Sl → Option (List Sl)) (al : List Nat) (me : En S D) : En S Fl := fun env => M.bind (me env) fun d => match t d (esc al d env) with
  | some env' => M.ret (.nx env')
  | none => M.fail
theorem ds_asgG {tg : Expr} {ts : List Nat} {t : D → List Sl → Option (List Sl)} (he : DE X C e al me) (hg : DG X C false tg ts t) (hs : swapsWithSole [tg] e pos.line X.env = pure false := by rfl) (hw : swappedStores [tg] e X.env = pure none := by rfl)
    (h1 : (assignEach [tg] X.env).map (·.2) = [assign tg X.env] := by rfl) : DS X C (.Assign [tg] e pos) (sAsgG t al me) := by
  refine ⟨PS_imp (ps_asg he.run hg.run hs hw h1) fun Dn σ H ⟨env, s, R, h⟩ => ?_⟩
  unfold sAsgG at h
  refine ⟨env, s, R, bindE R famP h fun d s1 v H1 R1 m1 q h1 => ?_⟩
  cases et : t d (esc al d env) with
  | none => rw [et] at h1; exact False.elim h1
  | some env' =>
    rw [et] at h1
    exact ⟨esc al d env, s1, d, env', R1.esc, Rep.esc (g := gx X) q, et, fun σ' R2 sub f o => h1 σ' H1 R2 (Mv.toSub R m1 fun a z => Ow.esc a (sub a z))⟩
/-- x op= e -/
def sAug (i : Nat) (f : D → D → Option D) (me : En S D) : En S Fl := fun env => match env[i]? with
  | some (.fz d) => M.bind (me env) fun e => match f d e with
    | some z => if z.hard = true then M.ret (.nx (env.set i (.fz z))) else M.fail
    | none => M.fail
  | _ => M.fail
theorem ds_aug {py : Pos} {op : Operator} {r : TIp} {f : D → D → Option D} (ho : PIp X op r) (hv : V2 X.K wd r f) (he : DE X C e al me) (hN : X.N.Nodup) (hi : X.N[i]? = some x := by rfl) (hx : Loc X.env.scope x := by first | exact Or.inl rfl | exact Or.inr rfl)
    (hf : X.fn x = true ∨ X.env.scope.names.lookup x = some .local := by first | exact .inl rfl | exact .inr rfl) : DS X C (.AugAssign (.Name x py) op e pos) (sAug i f me) := by
  refine ⟨PS_imp (ps_aug hN hi hx he.run ho hf) fun Dn σ H ⟨env, s, R, h⟩ => ?_⟩
  unfold sAug at h
  cases ei : env[i]? with
  | none => rw [ei] at h; exact False.elim h
  | some sl =>
    rw [ei] at h
    cases sl with
    | fz d =>
      obtain ⟨v, ev, rv⟩ := R.fz i d ei
      refine ⟨v, ev, env, s, R, bindE R famP h fun e1 s1 y H1 R1 m1 q h1 => ?_⟩
      cases ef : f d e1 with
      | none => rw [ef] at h1; exact False.elim h1
      | some z =>
        rw [ef] at h1
        dsimp only at h1
        split at h1
        · rename_i hz
          refine hv (Ow C env σ al) H1 s1 v y d e1 z _ R1.rel (fun a z => R1.here z) (fun a z => .inl (C.sub a z)) ((rv.mv (Ext.ow R m1)).mv (Mv.sub Ow.nil)) q ef fun u H2 m2 r2 q2 => ?_
          have R2 := R1.step m2 r2
          exact h1 _ _ (R2.setfz (Rep.hard hz q2)) (Mv.toSub R (m1.trans m2) fun a z => Ow.setfz R2.len a z)
        · exact False.elim h1
    | no => exact False.elim h
    | ow d => exact False.elim h

/-! ### objects of one's own are changed -/
theorem frz_ow {dl : D} : ∀ {al : List Nat} {env : List Sl} {i : Nat}, (frz al env)[i]? = some (.ow dl) → env[i]? = some (.ow dl)
  | [], _, _, z => z
  | j :: r, env, i, z => (frz1_ow (frz_ow (al := r) z)).2
theorem esc_ow {dl d : D} {al : List Nat} {env : List Sl} {i : Nat} (h : (esc al d env)[i]? = some (.ow dl)) : env[i]? = some (.ow dl) := by
  unfold esc at h
  split at h
  · exact h
  · split at h
    · exact h
    · exact frz_ow h
def sApp (i : Nat) (al : List Nat) (me : En S D) : En S Fl := fun env => match env[i]? with
  | some (.ow (.lst _)) => M.bind (me env) fun d => match (esc al d env)[i]? with
    | some (.ow (.lst l)) => if l.length < 16777216 then M.ret (.nx ((esc al d env).set i (.ow (.lst (l ++ [d]))))) else M.fail
    | _ => M.fail
  | _ => M.fail
theorem sizeLine_lt {n : Nat} (h : n < 16777216) : n < sizeLine := by rw [sizeLine_eq]; exact h
theorem ds_app {p1 p2 cpos : Pos} (he : DE X C e al me) (hN : X.N[i]? = some x := by rfl) (hv : Vis X.env.scope x := by first | exact Or.inl rfl | exact Or.inr (Or.inl rfl))
    (hd : (x == ("__debug__" : Str)) = false := by decide +kernel) (hcd : (x == ("__classdict__" : Str)) = false := by decide +kernel)
    (hbase : attributeBase (.Name x p1) "append" X.env (eval (.Name x p1) X.env) = eval (.Name x p1) X.env := by rfl)
    (hfew : ((backTo cpos (starEach [e] X.env)).all (fun x => !x.1) && (backToKw cpos (keywordEach [] X.env)).all (fun x => x.1.isSome) && decide ([e].length + ([] : List Keyword).length + (if ([] : List Keyword).isEmpty then 0 else 1) < 30)) = true := by rfl)
    (hline : (p2.endLine == cpos.line) = true := by rfl) (hs : starEach [e] X.env = (false, eval e X.env) :: starEach [] X.env := by rfl) (hplain : (backTo cpos (starEach [] X.env)).any (·.1) = false := by rfl)
    (hsw : swapsWith (.Call (.Attribute (.Name x p1) "append" p2) [e] [] cpos) none pos.line X.env = pure false := by rfl) :
    DS X C (.Expr (.Call (.Attribute (.Name x p1) "append" p2) [e] [] cpos) pos) (sApp i al me) := by
  refine ⟨PS_imp (ps_expr (pe_bm PySem.F.plainAttrs_list PySem.F.slot_list_append PySem.F.type_list_append mt_append (pe_var hN hv hd hcd) (pa_cons he.run pa_nil hs) hbase hfew hline hs hplain) hsw) fun Dn σ H ⟨env, s, R, h⟩ => ?_⟩
  unfold sApp at h
  cases ei : env[i]? with
  | none => rw [ei] at h; exact False.elim h
  | some sl =>
    rw [ei] at h
    cases sl with
    | no => exact False.elim h
    | fz d => exact False.elim h
    | ow dl =>
      cases dl with
      | lst l0 =>
        obtain ⟨a, qa, ⟨xs0, h0, r0⟩, nav, nhb⟩ := R.ow i _ ei
        refine ⟨_, qa, .inl ⟨rfl, xs0, .inl (.inl h0)⟩, env, s, R, bindE R famP h fun d s1 y H1 R1 m1 q h1 => ?_⟩
        have R2 : RelE (gx X) C (esc al d env) σ H1 s1 := R1.esc
        have q2 : Rep X.K (Ow C (esc al d env) σ []) H1 d y := Rep.esc (g := gx X) q
        cases ee : (esc al d env)[i]? with
        | none => rw [ee] at h1; exact False.elim h1
        | some sl =>
          rw [ee] at h1
          cases sl with
          | no => exact False.elim h1
          | fz d => exact False.elim h1
          | ow dl =>
            cases dl with
            | lst l =>
              dsimp only at h1
              split at h1
              · rename_i hl
                obtain ⟨b, qb, ⟨xs, hx, rx⟩, _⟩ := R2.ow i _ ee
                rw [qa] at qb
                cases qb
                refine ⟨a, xs, y, rfl, rfl, hx, by rw [rx.length]; exact sizeLine_lt hl, ?_⟩
                have wa : Ow C (esc al d env) σ [] a := .inr ⟨i, _, ee, by simp, qa⟩
                have mw : Mv (Ow C (esc al d env) σ []) H1 (Ow C (esc al d env) σ []) (L2.upd H1 a (.lst (xs ++ [y]))) := Mv.wr hx rfl wa
                obtain ⟨R3, m3⟩ := R2.upd (o := .lst (xs ++ [y])) (d' := .lst (l ++ [d])) ee qa ⟨xs ++ [y], upd_same, (rx.append (.cons q2 .nil)).mv mw⟩
                exact h1 σ _ R3 ((Mv.toSub R m1 fun a z => Ow.esc a z).trans m3)
              · exact False.elim h1
            | _ => exact False.elim h1
      | _ => exact False.elim h
end
end DD
namespace DD
open PySem PySem.Spec PyProof.Rows L2

/-! ### what is walked -/
/-- the items ds come by J, while P -/
structure ItD {S : Type} (g : Gx) (w : Wd S) (b : Bool) (J : It) (P : Set' → Hp → Prop) (ds : List D) : Prop where
  mv : ∀ {W H W' H'}, Mv W H W' H' → P W H → P W' H'
  go : ∀ {W H i}, P W H → i < ds.length → J.go i H
  stop : ∀ {W H i}, P W H → i = ds.length → J.stop i H
  yld : ∀ {W H i x H' d s}, P W H → w.rel s H → (∀ a, W a → H a ≠ none) → (∀ a, w.foot a → W a) → ds[i]? = some d → J.yld i H x H' → Mv w.foot H w.foot H' ∧ w.rel s H' ∧ RepB g.K b W H' d x
section
variable {S : Type} {wd : Wd S}
def ResI (g : Gx) (C : Dc wd) (b : Bool) (W : Set') (H : Hp) (o : Out S (List D)) (R : It → Hp → Prop) : Prop := match o with
  | .ok ds s' => ∀ J P H', Ext C H H' → wd.rel s' H' → ItD g wd b J P ds → P W H' → R J H'
  | .ex c fs s' => ExP g wd C.Hb C.E c fs s'
  | .bad => False
def lI (g : Gx) (C : Dc wd) (b : Bool) (al : List Nat) (m : En S (List D)) : TI := fun σ H R => ∃ env s, RelE g C env σ H s ∧ ResI g C b (Ow C env σ al) H (m env s) R
structure DI (X : Cx) (C : Dc wd) (b : Bool) (tg e : Expr) (al : List Nat) (m : En S (List D)) : Prop where
  run : PI X tg e (lI (gx X) C b al m)
end
theorem PI_imp {X : Cx} {tg e : Expr} {t t' : TI} (h : PI X tg e t) (i : ∀ σ H R, t' σ H R → t σ H R) : PI X tg e t' := ⟨fun pins s σ H R I q => h.run pins s σ H R I (i σ H R q)⟩
section
variable {S : Type} {wd : Wd S} {g : Gx} {C : Dc wd} {W : Set'}
theorem famI {b : Bool} {R : It → Hp → Prop} : Fam g C fun H o => ResI g C b W H o R where
  ex := fun h => h
  bad := fun h => h
  mono := fun {H H1 s1 o} m r h => by
    cases o with
    | ok ds s' => exact fun J P H' m' r' i p => h J P H' (m.trans m') r' i p
    | ex c fs s' => exact h
    | bad => exact h
end

section
variable {S : Type} {wd : Wd S} {X : Cx} {C : Dc wd} {al bl cl : List Nat} {a b c e tg : Expr} {es : List Expr} {m ma mb mc : En S D} {mr : En S (List D)} {pos p tpos : Pos} {elts : List Expr} {kk : Nat}
/-- ints from lo -/
def rngD (lo : Int) (n : Nat) : List D := (List.range n).map fun i => .int (lo + (i : Nat))
theorem it_rng {g : Gx} {lo : Int} {n : Nat} : ItD g wd false (Itr lo n) (fun _ _ => True) (rngD lo n) where
  mv := fun _ _ => trivial
  go := fun {W H i} _ h => show i < n by simpa [rngD] using h
  stop := fun _ h => by
    subst h
    show n ≤ _
    simp [rngD]
  yld := fun {W H i x H' d s} _ r _ _ e y => by
    obtain ⟨rfl, rfl⟩ := y
    refine ⟨Mv.refl, r, ?_⟩
    simp only [rngD, List.getElem?_map, Option.map_eq_some_iff] at e
    obtain ⟨k, ek, rfl⟩ := e
    obtain ⟨hk, ek⟩ := List.getElem?_eq_some_iff.mp ek
    simp at ek
    subst ek
    show Rep _ _ _ _ _
    simp only [Rep]
def dRng1 : List D → Option (List D)
  | [.int j] => if j.natAbs ≤ 16777216 then some (rngD 0 j.toNat) else none
  | _ => none
def dRng2 : List D → Option (List D)
  | [.int i, .int j] => if i.natAbs ≤ 16777216 ∧ j.natAbs ≤ 16777216 then some (rngD i (j - i).toNat) else none
  | _ => none
def iOf (f : List D → Option (List D)) (mr : En S (List D)) : En S (List D) := fun env => M.bind (mr env) fun ds => M.ofO (f ds)
theorem di_range1 (hm : X.mg "range" = none) (ha : DA X C [a] al mr) (hg : Gl X "range" := by rfl) (hs : starEach [a] X.env = [(false, eval a X.env)] := by rfl) :
    DI X C false tg (.Call (.Name "range" p) [a] [] pos) [] (iOf dRng1 mr) := by
  refine ⟨PI_imp (pi_range1 hg hm ha.run hs) fun σ H Q ⟨env, s, R, h⟩ => ?_⟩
  unfold iOf at h
  refine ⟨env, s, R, bindA R famI h fun ds s1 xs H1 R1 m1 q1 h1 => ?_⟩
  cases ed : dRng1 ds with
  | none => rw [ed] at h1; exact False.elim h1
  | some z =>
    rw [ed] at h1
    unfold dRng1 at ed
    split at ed
    · rename_i j
      split at ed
      · rename_i hj
        cases ed
        obtain ⟨v, rfl, hv⟩ := reps1 q1
        simp only [Rep] at hv
        subst hv
        exact ⟨j, rfl, by omega, by omega, h1 _ _ H1 Mv.refl R1.rel it_rng trivial⟩
      · cases ed
    · cases ed
theorem di_range2 (hm : X.mg "range" = none) (ha : DA X C [a, b] al mr) (hg : Gl X "range" := by rfl) (hs : starEach [a, b] X.env = [(false, eval a X.env), (false, eval b X.env)] := by rfl) (hs2 : starEach [b] X.env = [(false, eval b X.env)] := by rfl) :
    DI X C false tg (.Call (.Name "range" p) [a, b] [] pos) [] (iOf dRng2 mr) := by
  refine ⟨PI_imp (pi_range2 hg hm ha.run hs hs2) fun σ H Q ⟨env, s, R, h⟩ => ?_⟩
  unfold iOf at h
  refine ⟨env, s, R, bindA R famI h fun ds s1 xs H1 R1 m1 q1 h1 => ?_⟩
  cases ed : dRng2 ds with
  | none => rw [ed] at h1; exact False.elim h1
  | some z =>
    rw [ed] at h1
    unfold dRng2 at ed
    split at ed
    · rename_i i j
      split at ed
      · rename_i hj
        cases ed
        obtain ⟨v, u, rfl, hv, hu⟩ := reps2 q1
        simp only [Rep] at hv hu
        subst hv hu
        exact ⟨i, j, rfl, ⟨by omega, by omega, by omega, by omega⟩, h1 _ _ H1 Mv.refl R1.rel it_rng trivial⟩
      · cases ed
    · cases ed

/-! ### lists, tuples, texts -/
def charsD (x : Str) : List D := x.cps.toList.map fun c => D.str ⟨#[c]⟩
def dItems : D → Option (List D)
  | .tup l => some l
  | .lst l => some l
  | .str x => some (charsD x)
  | _ => none
/-- a source stands with its items -/
def SrcP (g : Gx) (k : SK) (ds : List D) (W : Set') (H : Hp) : Prop := match k with
  | .l a => ∃ xs, LstAt W H a xs ∧ Reps g.K W H ds xs
  | .t a => ∃ xs, TupAt g.K H a xs ∧ Reps g.K W H ds xs
  | .s x _ => okS x ∧ ds = charsD x
theorem SrcP.mv {g : Gx} {k : SK} {ds : List D} {W W' : Set'} {H H' : Hp} (m : Mv W H W' H') (h : SrcP g k ds W H) : SrcP g k ds W' H' := by
  cases k with
  | l a => obtain ⟨xs, t, r⟩ := h; exact ⟨xs, t.mv m, r.mv m⟩
  | t a => obtain ⟨xs, t, r⟩ := h; exact ⟨xs, t.mv m, r.mv m⟩
  | s x tk => exact h
theorem okS_sign {x : Str} {c : Nat} (h : okS x) (e : c ∈ x.cps.toList) : okS ⟨#[c]⟩ := by
  obtain ⟨i, hi, e⟩ := List.getElem_of_mem e
  refine okS_one (i := (i : Nat)) h ?_
  rw [atI_nat]
  rw [List.getElem?_eq_getElem hi, e]
theorem SrcP.vals {g : Gx} {k : SK} {ds : List D} {W : Set'} {H : Hp} (h : SrcP g k ds W H) : ∃ xs, k.vals g.K H xs ∧ Reps g.K W H ds xs := by
  cases k with
  | l a => obtain ⟨xs, t, r⟩ := h; exact ⟨xs, t.seq, r⟩
  | t a => obtain ⟨xs, t, r⟩ := h; exact ⟨xs, t.seq, r⟩
  | s x tk =>
    obtain ⟨o, rfl⟩ := h
    refine ⟨_, rfl, ?_⟩
    unfold charsD SK.signs
    have : ∀ l : List Nat, (∀ c ∈ l, okS ⟨#[c]⟩) → Reps g.K W H (l.map fun c => D.str ⟨#[c]⟩) (l.map fun c => V.str ⟨#[c]⟩) := by
      intro l
      induction l with
      | nil => exact fun _ => .nil
      | cons c r ih => exact fun h => .cons (by simp only [Rep, true_and]; exact h c (by simp)) (ih fun d hd => h d (by simp [hd]))
    exact this _ fun c hc => okS_sign o hc
theorem src_of {W : Set'} {H : Hp} {d : D} {ds : List D} {x : V} {R : SK → Prop} (r : Rep X.K W H d x) (e : dItems d = some ds) (h : ∀ k, SrcP (gx X) k ds W H → R k) : SrcOf X.K H x R := by
  cases d with
  | tup l =>
    cases e
    simp only [Rep] at r
    obtain ⟨a, xs, rfl, t, r⟩ := r
    exact .inr (.inl ⟨a, xs, rfl, t.seq, h (.t a) ⟨xs, t, r⟩⟩)
  | lst l =>
    cases e
    simp only [Rep] at r
    obtain ⟨a, xs, rfl, t, r⟩ := r
    exact .inl ⟨a, xs, rfl, t.seq, h (.l a) ⟨xs, t, r⟩⟩
  | str z =>
    cases e
    simp only [Rep] at r
    obtain ⟨rfl, o⟩ := r
    exact .inr (.inr ⟨z, rfl, fun tk => h (.s z tk) ⟨o, rfl⟩⟩)
  | _ => cases e
theorem it_seq {k : SK} {ds : List D} : ItD (gx X) wd false (ItS X.K k) (SrcP (gx X) k ds) ds := by
  cases k with
  | l a =>
    refine ⟨fun m h => h.mv m, fun {W H i} ⟨xs, t, r⟩ hi => ?_, fun {W H i} ⟨xs, t, r⟩ hi => ⟨xs, t.seq, by rw [r.length, hi]; exact Nat.le_refl _⟩, fun {W H i x H' d s} ⟨xs, t, r⟩ rl _ _ e y => ?_⟩
    · obtain ⟨v, ev, _⟩ := r.get (List.getElem?_eq_getElem hi)
      exact ⟨xs, v, t.seq, ev⟩
    · obtain ⟨rfl, hy⟩ := y
      obtain ⟨v, ev, rv⟩ := r.get e
      have := hy xs t.seq
      rw [ev] at this
      cases this
      exact ⟨Mv.refl, rl, rv⟩
  | t a =>
    refine ⟨fun m h => h.mv m, fun {W H i} ⟨xs, t, r⟩ hi => ?_, fun {W H i} ⟨xs, t, r⟩ hi => ⟨xs, t.seq, by rw [r.length, hi]; exact Nat.le_refl _⟩, fun {W H i x H' d s} ⟨xs, t, r⟩ rl _ _ e y => ?_⟩
    · obtain ⟨v, ev, _⟩ := r.get (List.getElem?_eq_getElem hi)
      exact ⟨xs, v, t.seq, ev⟩
    · obtain ⟨rfl, hy⟩ := y
      obtain ⟨v, ev, rv⟩ := r.get e
      have := hy xs t.seq
      rw [ev] at this
      cases this
      exact ⟨Mv.refl, rl, rv⟩
  | s z tk =>
    have hl : ds = charsD z → ds.length = z.cps.size := fun e => by rw [e]; simp [charsD]
    refine ⟨fun m h => h.mv m, fun {W H i} h hi => ?_, fun {W H i} h hi => ?_, fun {W H i x H' d s} h rl _ _ e y => ?_⟩
    · rw [hl h.2] at hi
      exact hi
    · rw [hl h.2] at hi
      subst hi
      exact Nat.le_refl _
    · obtain ⟨xs, hv, r⟩ := h.vals
      obtain ⟨rfl, c, ec, rfl⟩ := y
      have hv' : xs = SK.signs z := hv
      subst hv'
      obtain ⟨v, ev, rv⟩ := r.get e
      refine ⟨Mv.refl, rl, ?_⟩
      have : v = V.str ⟨#[c]⟩ := by
        unfold SK.signs at ev
        rw [List.getElem?_map] at ev
        rw [← Array.getElem?_toList] at ec
        rw [ec] at ev
        exact (Option.some.inj ev).symm
      rwa [this] at rv
def iSeq (m : En S D) : En S (List D) := fun env => M.bind (m env) fun d => M.ofO (dItems d)
theorem di_seq (he : DE X C e al m) : DI X C false tg e al (iSeq m) := by
  refine ⟨PI_imp (pi_seqS he.run) fun σ H Q ⟨env, s, R, h⟩ => ?_⟩
  unfold iSeq at h
  refine ⟨env, s, R, bindE R famI h fun d s1 x H1 R1 m1 q1 h1 => ?_⟩
  cases ed : dItems d with
  | none => rw [ed] at h1; exact False.elim h1
  | some ds =>
    rw [ed] at h1
    exact src_of q1 ed fun k hk => h1 _ _ H1 Mv.refl R1.rel it_seq hk
def enumD (ds : List D) : List D := ds.mapIdx fun i d => .tup [.int (i : Nat), d]
def iEnum (mr : En S (List D)) : En S (List D) := fun env => M.bind (mr env) fun l => match l with
  | [d] => M.ofO ((dItems d).map enumD)
  | _ => M.fail
theorem it_enum {k : SK} {ds : List D} : ItD (gx X) wd true (ItE X.K k) (SrcP (gx X) k ds) (enumD ds) := by
  have hl : (enumD ds).length = ds.length := by simp [enumD]
  refine ⟨fun m h => h.mv m, fun {W H i} h hi => ?_, fun {W H i} h hi => ?_, fun {W H i x H' d s} h rl hw hf e y => ?_⟩
  · obtain ⟨xs, hv, r⟩ := h.vals
    obtain ⟨v, ev, _⟩ := r.get (List.getElem?_eq_getElem (by rw [← hl]; exact hi))
    exact ⟨xs, v, hv, ev⟩
  · obtain ⟨xs, hv, r⟩ := h.vals
    exact ⟨xs, hv, by rw [r.length, ← hl, hi]⟩
  · obtain ⟨xs, hv, r⟩ := h.vals
    obtain ⟨T, z, rfl, hn, rfl, hz⟩ := y
    have hz := hz xs hv
    obtain ⟨d', ed, rd⟩ := r.get' hz
    unfold enumD at e
    rw [List.getElem?_mapIdx, ed] at e
    cases e
    obtain ⟨m1, r1, m2⟩ := Wd.laidX wd (o := .tup [.int (i : Nat), z]) rl hn hf
    refine ⟨m1, r1, ?_⟩
    exact ⟨T, _, _, rfl, rfl, .inl (.inl upd_same), .cons (by simp only [Rep]) (.cons (rd.mv (m2.thin fun a z => .inl z)) .nil)⟩
theorem di_enum (hc : X.calm = true) (hm : X.mg "enumerate" = none) (ha : DA X C [e] al mr) (hg : Gl X "enumerate" := by rfl) (hs : starEach [e] X.env = [(false, eval e X.env)] := by rfl) :
    DI X C true (.Tuple elts kk tpos) (.Call (.Name "enumerate" p) [e] [] pos) al (iEnum mr) := by
  refine ⟨PI_imp (pi_enumS hc hg hm ha.run hs) fun σ H Q ⟨env, s, R, h⟩ => ?_⟩
  unfold iEnum at h
  refine ⟨env, s, R, bindA R famI h fun ds s1 xs H1 R1 m1 q1 h1 => ?_⟩
  split at h1
  · rename_i d
    obtain ⟨x, rfl, hx⟩ := reps1 q1
    cases ed : dItems d with
    | none => rw [ed] at h1; exact False.elim h1
    | some l =>
      rw [ed] at h1
      exact ⟨x, rfl, src_of hx ed fun k hk => h1 _ _ H1 Mv.refl R1.rel it_enum hk⟩
  · exact False.elim h1
def zipD (ds es : List D) : List D := ds.zipWith (fun d e => .tup [d, e]) es
def iZip (mr : En S (List D)) : En S (List D) := fun env => M.bind (mr env) fun l => match l with
  | [d, e] => match dItems d, dItems e with
    | some ds, some es => M.ret (zipD ds es)
    | _, _ => M.fail
  | _ => M.fail
theorem it_zip {k k2 : SK} {ds es : List D} : ItD (gx X) wd true (ItZ X.K k k2) (fun W H => SrcP (gx X) k ds W H ∧ SrcP (gx X) k2 es W H) (zipD ds es) := by
  have hl : (zipD ds es).length = min ds.length es.length := by simp [zipD]
  refine ⟨fun m h => ⟨h.1.mv m, h.2.mv m⟩, fun {W H i} h hi => ?_, fun {W H i} h hi => ?_, fun {W H i x H' d s} h rl hw hf e y => ?_⟩
  · obtain ⟨xs, hv, r⟩ := h.1.vals
    obtain ⟨ys, hv2, r2⟩ := h.2.vals
    rw [hl] at hi
    obtain ⟨v, ev, _⟩ := r.get (List.getElem?_eq_getElem (i := i) (by omega))
    obtain ⟨v2, ev2, _⟩ := r2.get (List.getElem?_eq_getElem (i := i) (by omega))
    exact ⟨xs, ys, v, v2, hv, hv2, ev, ev2⟩
  · obtain ⟨xs, hv, r⟩ := h.1.vals
    obtain ⟨ys, hv2, r2⟩ := h.2.vals
    exact ⟨xs, ys, hv, hv2, by rw [r.length, r2.length, ← hl, hi]⟩
  · obtain ⟨xs, hv, r⟩ := h.1.vals
    obtain ⟨ys, hv2, r2⟩ := h.2.vals
    obtain ⟨T, z, z2, rfl, hn, rfl, hz, hz2⟩ := y
    have hz := hz xs hv
    have hz2 := hz2 ys hv2
    obtain ⟨d1, ed1, rd1⟩ := r.get' hz
    obtain ⟨d2, ed2, rd2⟩ := r2.get' hz2
    unfold zipD at e
    rw [List.getElem?_zipWith, ed1, ed2] at e
    cases e
    obtain ⟨m1, r1, m2⟩ := Wd.laidX wd (o := .tup [z, z2]) rl hn hf
    refine ⟨m1, r1, ?_⟩
    exact ⟨T, _, _, rfl, rfl, .inl (.inl upd_same), .cons (rd1.mv (m2.thin fun a z => .inl z)) (.cons (rd2.mv (m2.thin fun a z => .inl z)) .nil)⟩
theorem di_zip (hc : X.calm = true) (hm : X.mg "zip" = none) (ha : DA X C [a, b] al mr) (hg : Gl X "zip" := by rfl) (hs : starEach [a, b] X.env = (false, eval a X.env) :: starEach [b] X.env := by rfl) (hpl : (backTo pos (starEach [b] X.env)).any (·.1) = false := by rfl) :
    DI X C true (.Tuple elts kk tpos) (.Call (.Name "zip" p) [a, b] [] pos) al (iZip mr) := by
  refine ⟨PI_imp (pi_zipS hc hg hm ha.run hs hpl) fun σ H Q ⟨env, s, R, h⟩ => ?_⟩
  unfold iZip at h
  refine ⟨env, s, R, bindA R famI h fun ds s1 xs H1 R1 m1 q1 h1 => ?_⟩
  split at h1
  · rename_i d e
    obtain ⟨x, y, rfl, hx, hy⟩ := reps2 q1
    cases ed : dItems d with
    | none => rw [ed] at h1; exact False.elim h1
    | some l =>
      cases ee : dItems e with
      | none => rw [ed, ee] at h1; exact False.elim h1
      | some l2 =>
        rw [ed, ee] at h1
        exact ⟨x, y, rfl, src_of hx ed fun k hk => src_of hy ee fun k2 hk2 => h1 _ _ H1 Mv.refl R1.rel it_zip ⟨hk, hk2⟩⟩
  · exact False.elim h1
end

/-! ### for -/
def forD {S : Type} (tgt : D → List Sl → Option (List Sl)) (body : En S Fl) : List D → En S Fl
  | [], env => M.ret (.nx env)
  | d :: ds, env => match tgt d env with
    | none => M.fail
    | some env' => M.bind (body env') fun f => match f with
      | .nx e => forD tgt body ds e
      | .ct e => forD tgt body ds e
      | .bk e => M.ret (.nx e)
      | .rt d => M.ret (.rt d)
def sFor {S : Type} (al : List Nat) (mi : En S (List D)) (tgt : D → List Sl → Option (List Sl)) (body : En S Fl) : En S Fl := fun env => M.bind (mi env) fun ds => forD tgt body ds (frz al env)
section
variable {S : Type} {wd : Wd S} {X : Cx} {C : Dc wd} {al bl cl ts : List Nat} {iter tg c : Expr} {body : List Stmt} {mi : En S (List D)} {mb : En S Fl} {t : En S Bool} {pos : Pos} {tgt : D → List Sl → Option (List Sl)}
theorem Ow.frzAl {env : List Sl} {σ : Sg} : ∀ a, Ow C (DD.frz al env) σ [] a → Ow C env σ al a := Ow.frz0
theorem ds_for (hp : PassesOwn (model X.prog X.w) X.A X.env X.xe) (hc : X.calm = true) {w : Bool} (hi : DI X C w tg iter al mi) (hg : DG X C w tg ts tgt) (hb : DSs X C body mb)
    (hs : ∀ x, foldedSetIterable iter X.env x = pure x := by intro _; rfl) : DS X C (.For tg iter body [] pos) (sFor al mi tgt mb) := by
  refine ⟨PS_imp (ps_for hp hc hi.run hg.run hb.run hs) fun Dn σ H ⟨env, s, R, h⟩ => ?_⟩
  unfold sFor at h
  -- the items are at hand
  have main : ∀ ds s1 (h1 : Post (gx X) C Dn (Ow C env σ []) H (forD tgt mb ds (frz al env) s1)) J P H1, Ext C H H1 → wd.rel s1 H1 → ItD (gx X) wd w J P ds → P (Ow C env σ al) H1 →
      ∃ W : Nat → Nat → L2.St → Hp → Prop, (∃ m, W 0 m σ H1) ∧ ∀ i m σ H, W i m σ H → (J.stop i H ∧ Dn.nx σ H) ∨ (J.go i H ∧ ∃ N : L2.St → Hp → Prop, (∀ σ' H', N σ' H' → ∃ m', m' < m ∧ W (i + 1) m' σ' H') ∧
        ∀ x H', J.yld i H x H' → lG (gx X) C w ts tgt x σ H' fun σ2 H2 => lS (gx X) C mb { Dn with nx := N, ct := N, bk := Dn.nx } σ2 H2) := by
    intro ds s1 h1 J P H1 m1 r1 it p1
    refine ⟨fun i m σ2 H2 => m = ds.length - i ∧ i ≤ ds.length ∧ ∃ env2 s2, RelE (gx X) C env2 σ2 H2 s2 ∧ P (Ow C env2 σ2 []) H2 ∧ Post (gx X) C Dn (Ow C env2 σ2 []) H2 (forD tgt mb (ds.drop i) env2 s2), ?_, ?_⟩
    · refine ⟨_, rfl, Nat.zero_le _, frz al env, s1, (R.step m1 r1).frz, it.mv (Mv.sub Ow.frzAl) p1, ?_⟩
      rw [List.drop_zero]
      exact Post.mono ((Ext.ow R m1).thin fun a z => Ow.nil a (Ow.frzAl a z)) h1
    · rintro i m σ2 H2 ⟨rfl, hi, env2, s2, R2, p2, h2⟩
      by_cases e : i = ds.length
      · refine .inl ⟨it.stop p2 e, ?_⟩
        rw [e, List.drop_length] at h2
        exact h2 σ2 H2 R2 Mv.refl
      · have hlt : i < ds.length := by omega
        refine .inr ⟨it.go p2 hlt, fun σ3 H3 => ∃ env3 s3, RelE (gx X) C env3 σ3 H3 s3 ∧ P (Ow C env3 σ3 []) H3 ∧ Post (gx X) C Dn (Ow C env3 σ3 []) H3 (forD tgt mb (ds.drop (i + 1)) env3 s3), ?_, ?_⟩
        · rintro σ3 H3 ⟨env3, s3, R3, p3, h3⟩
          exact ⟨ds.length - (i + 1), by omega, rfl, by omega, env3, s3, R3, p3, h3⟩
        · intro x H3 y
          obtain ⟨m3, r3, q3⟩ := it.yld p2 R2.rel (fun a z => R2.here z) (fun a z => .inl (C.sub a z)) (List.getElem?_eq_getElem hlt) y
          have R3 := R2.step m3 r3
          rw [List.drop_eq_getElem_cons hlt] at h2
          unfold forD at h2
          cases et : tgt ds[i] env2 with
          | none => rw [et] at h2; exact False.elim h2
          | some env3 =>
            rw [et] at h2
            dsimp only at h2
            refine ⟨env2, s2, ds[i], env3, R3, q3, et, fun σ3 R4 sub _ _ => ⟨env3, s2, R4, ?_⟩⟩
            have m4 : Mv (Ow C env2 σ2 []) H2 (Ow C env3 σ3 []) H3 := (Ext.ow R2 m3).thin sub
            unfold M.bind at h2
            cases eb : mb env3 s2 with
            | ok f s4 =>
              rw [eb] at h2
              cases f with
              | nx e4 => exact fun σ4 H4 R4 q4 => ⟨e4, s4, R4, it.mv (m4.trans q4) p2, Post.mono (m4.trans q4) h2⟩
              | ct e4 => exact fun σ4 H4 R4 q4 => ⟨e4, s4, R4, it.mv (m4.trans q4) p2, Post.mono (m4.trans q4) h2⟩
              | bk e4 => exact fun σ4 H4 R4 q4 => h2 σ4 H4 R4 (m4.trans q4)
              | rt d => exact h2
            | ex c fs s4 => rw [eb] at h2; exact h2
            | bad => rw [eb] at h2; exact h2
  refine ⟨env, s, R, ?_⟩
  unfold M.bind at h
  cases e : mi env s with
  | ok ds s1 => rw [e] at h; exact main ds s1 h
  | ex c fs s1 => rw [e] at h; exact h
  | bad => rw [e] at h; exact h

/-! ### while -/
def whileD {S : Type} (t : En S Bool) (mb : En S Fl) : Nat → En S Fl
  | 0, _ => M.fail
  | n + 1, env => M.bind (t env) fun b => if b = true then M.bind (mb env) fun f => (match f with
      | .nx e => whileD t mb n e
      | .ct e => whileD t mb n e
      | .bk e => M.ret (.nx e)
      | .rt d => M.ret (.rt d)) else M.ret (.nx env)
theorem ds_while (n : Nat) (hp : PassesOwn (model X.prog X.w) X.A X.env X.xe) (hc : DT X C c t) (hb : DSs X C body mb) : DS X C (.While c body [] pos) (whileD t mb n) := by
  refine ⟨PS_imp (ps_while hp hc.run hb.run) fun Dn σ H ⟨env, s, R, h⟩ => ?_⟩
  refine ⟨fun m σ2 H2 => ∃ env2 s2, RelE (gx X) C env2 σ2 H2 s2 ∧ Post (gx X) C Dn (Ow C env2 σ2 []) H2 (whileD t mb m env2 s2), ⟨n, env, s, R, h⟩, ?_⟩
  rintro m σ2 H2 ⟨env2, s2, R2, h2⟩
  cases m with
  | zero => exact False.elim h2
  | succ m =>
    unfold whileD at h2
    refine ⟨env2, s2, R2, bindT R2 famP h2 fun b s3 H3 R3 m3 h3 => ?_⟩
    cases b with
    | false =>
      rw [if_neg Bool.false_ne_true] at h3 ⊢
      exact h3 _ _ R3 (Ext.ow R2 m3)
    | true =>
      rw [if_pos rfl] at h3 ⊢
      refine ⟨fun σ4 H4 => ∃ env4 s4, RelE (gx X) C env4 σ4 H4 s4 ∧ Post (gx X) C Dn (Ow C env4 σ4 []) H4 (whileD t mb m env4 s4), fun σ4 H4 q4 => ⟨m, Nat.lt_succ_self m, q4⟩, env2, s3, R3, ?_⟩
      have m4 := Ext.ow (al := []) R2 m3
      unfold M.bind at h3
      cases eb : mb env2 s3 with
      | ok f s4 =>
        rw [eb] at h3
        cases f with
        | nx e4 => exact fun σ4 H4 R4 q4 => ⟨e4, s4, R4, Post.mono (m4.trans q4) h3⟩
        | ct e4 => exact fun σ4 H4 R4 q4 => ⟨e4, s4, R4, Post.mono (m4.trans q4) h3⟩
        | bk e4 => exact fun σ4 H4 R4 q4 => h3 σ4 H4 R4 (m4.trans q4)
        | rt d => exact h3
      | ex c fs s4 => rw [eb] at h3; exact h3
      | bad => rw [eb] at h3; exact h3
end
end DD
namespace DD
open PySem PySem.Spec PyProof.Rows L2
def putD (l : List (Key × D)) (k : Key) (v : D) : List (Key × D) :=
  if (l.any fun p => decide (p.1 = k)) = true then l.map fun p => if p.1 = k then (p.1, v) else p else l ++ [(k, v)]
section
variable {K : PySem.W.Frag} {W : Set'} {H : Hp} {k : Key} {d : D} {v : V}
theorem RepKs.length : ∀ {ds : List (Key × D)} {vs : List (Key × V)}, RepKs K W H ds vs → vs.length = ds.length
  | [], vs, h => by simp only [RepKs] at h; subst h; rfl
  | (k, d) :: ds, vs, h => by
    simp only [RepKs] at h
    obtain ⟨v, r, rfl, _, h2⟩ := h
    simp [RepKs.length h2]
theorem RepKs.any : ∀ {ds : List (Key × D)} {vs : List (Key × V)}, RepKs K W H ds vs → (vs.any fun p => decide (p.1 = k)) = ds.any fun p => decide (p.1 = k)
  | [], vs, h => by simp only [RepKs] at h; subst h; rfl
  | (j, d) :: ds, vs, h => by
    simp only [RepKs] at h
    obtain ⟨v, r, rfl, _, h2⟩ := h
    simp [RepKs.any h2]
theorem RepKs.snoc (q : Rep K W H d v) : ∀ {ds : List (Key × D)} {vs : List (Key × V)}, RepKs K W H ds vs → RepKs K W H (ds ++ [(k, d)]) (vs ++ [(k, v)])
  | [], vs, h => by
    simp only [RepKs] at h
    subst h
    simp only [List.nil_append, RepKs]
    exact ⟨v, [], rfl, q, rfl⟩
  | (j, u) :: ds, vs, h => by
    simp only [RepKs] at h
    obtain ⟨w, r, rfl, h1, h2⟩ := h
    simp only [List.cons_append, RepKs]
    exact ⟨w, _, rfl, h1, RepKs.snoc q h2⟩
theorem RepKs.map (q : Rep K W H d v) : ∀ {ds : List (Key × D)} {vs : List (Key × V)}, RepKs K W H ds vs → RepKs K W H (ds.map fun p => if p.1 = k then (p.1, d) else p) (vs.map fun p => if p.1 = k then (p.1, v) else p)
  | [], vs, h => by simp only [RepKs] at h; subst h; simp only [List.map_nil, RepKs]
  | (j, u) :: ds, vs, h => by
    simp only [RepKs] at h
    obtain ⟨w, r, rfl, h1, h2⟩ := h
    simp only [List.map_cons]
    by_cases e : j = k
    · simp only [if_pos e, RepKs]
      exact ⟨v, _, rfl, q, RepKs.map q h2⟩
    · simp only [if_neg e, RepKs]
      exact ⟨w, _, rfl, h1, RepKs.map q h2⟩
theorem RepKs.put (q : Rep K W H d v) {ds : List (Key × D)} {vs : List (Key × V)} (h : RepKs K W H ds vs) : RepKs K W H (putD ds k d) (putK vs k v) := by
  unfold putD putK
  rw [h.any]
  split
  · exact h.map q
  · exact h.snoc q
end
section
variable {S : Type} {wd : Wd S} {X : Cx} {C : Dc wd} {al bl cl : List Nat} {a b c e ix : Expr} {me mx : En S D} {pos : Pos} {i : Nat} {x : Str}
/-- an own object's place is written -/
def putAt (d0 k d : D) : Option D := match d0 with
  | .lst l => match k with
    | .int j => (ixN l.length j).map fun n => .lst (l.set n d)
    | _ => none
  | .dct l => match keyOf k with
    | some k => if l.length < 16777216 then some (.dct (putD l k d)) else none
    | none => none
  | _ => none
def rSetA : TSet := fun o i v H Q => rSetL o i v H Q ∨ rSetD o i v H Q
theorem set_all (hu : X.A.units + 1 < cLine) : PSet X rSetA := fun pins s σ H o i v ov iv u Q I ro ri rv h =>
  h.elim (set_list pins s σ H o i v ov iv u Q I ro ri rv) (set_dict hu pins s σ H o i v ov iv u Q I ro ri rv)
theorem put_core {W : Set'} {H : Hp} {d0 k d z : D} {p : Addr} {vk v : V} {Q : Hp → Prop} (t : Top (gx X) W H d0 p) (hk : Rep X.K W H k vk) (hd : Rep X.K W H d v) (e : putAt d0 k d = some z)
    (h : ∀ o, (∀ W', Mv W H W' (L2.upd H p o) → Top (gx X) W' (L2.upd H p o) z p) → Q (L2.upd H p o)) : rSetA (.ref p) vk v H Q := by
  unfold putAt at e
  cases d0 with
  | lst l =>
    obtain ⟨xs, hx, r⟩ := t
    cases k with
    | int j =>
      obtain ⟨n, en, rfl⟩ := Option.map_eq_some_iff.mp e
      simp only [Rep] at hk
      subst hk
      refine .inl ⟨p, xs, j, n, rfl, rfl, hx, by rw [r.length]; exact en, h _ fun W' m => ⟨_, upd_same, (r.set n hd).mv m⟩⟩
    | _ => cases e
  | dct l =>
    obtain ⟨kvs, hx, r⟩ := t
    cases ek : keyOf k with
    | none => rw [ek] at e; cases e
    | some k' =>
      rw [ek] at e
      dsimp only at e
      split at e
      · rename_i hl
        cases e
        have := rep_key ek hk
        subst this
        exact .inr ⟨p, _, rfl, DPut.k hx (by rw [r.length]; exact sizeLine_lt hl), h _ fun W' m => ⟨_, upd_same, (RepKs.put hd r).mv m⟩⟩
      · cases e
  | _ => cases e
/-- x[ix] = e for an own x -/
def sPut (i : Nat) (al : List Nat) (me mx : En S D) : En S Fl := fun env => M.bind (me env) fun d => match env[i]? with
  | some (.ow _) => M.bind (mx env) fun k => match (esc al d env)[i]? with
    | some (.ow d0) => match putAt d0 k d with
      | some z => M.ret (.nx ((esc al d env).set i (.ow z)))
      | none => M.fail
    | _ => M.fail
  | _ => M.fail
theorem ds_put {p1 p2 : Pos} (he : DE X C e al me) (hx : DE X C ix [] mx) (hu : X.A.units + 1 < cLine) (hN : X.N[i]? = some x := by rfl) (hv : Vis X.env.scope x := by first | exact Or.inl rfl | exact Or.inr (Or.inl rfl))
    (hd : (x == ("__debug__" : Str)) = false := by decide +kernel) (hcd : (x == ("__classdict__" : Str)) = false := by decide +kernel)
    (ha : ∀ v, assign (.Subscript (.Name x p1) ix p2) X.env v = (do
      let ov ← holding [v] (eval (.Name x p1) X.env)
      let iv ← holding [v, ov] (eval ix X.env)
      standAt p2
      holding [v, ov, iv] (setItem ov iv v)
      release [v, ov, iv] []) := by intro _; rfl)
    (hs : swapsWithSole [.Subscript (.Name x p1) ix p2] e pos.line X.env = pure false := by rfl) (hw : swappedStores [.Subscript (.Name x p1) ix p2] e X.env = pure none := by rfl)
    (h1 : (assignEach [.Subscript (.Name x p1) ix p2] X.env).map (·.2) = [assign (.Subscript (.Name x p1) ix p2) X.env] := by rfl) :
    DS X C (.Assign [.Subscript (.Name x p1) ix p2] e pos) (sPut i al me mx) := by
  refine ⟨PS_imp (ps_asg he.run (pg_sub (pe_var hN hv hd hcd) hx.run (set_all hu) ha) hs hw h1) fun Dn σ H ⟨env, s, R, h⟩ => ?_⟩
  unfold sPut at h
  refine ⟨env, s, R, bindE R famP h fun d s1 v H1 R1 m1 q h1 => ?_⟩
  cases ei : env[i]? with
  | none => rw [ei] at h1; exact False.elim h1
  | some sl =>
    rw [ei] at h1
    cases sl with
    | no => exact False.elim h1
    | fz d => exact False.elim h1
    | ow d1 =>
      obtain ⟨p, qp, _⟩ := R1.ow i _ ei
      refine ⟨_, qp, env, s1, R1, bindE R1 famP h1 fun k s2 vk H2 R2 m2 qk h2 => ?_⟩
      have R3 : RelE (gx X) C (esc al d env) σ H2 s2 := R2.esc
      cases ee : (esc al d env)[i]? with
      | none => rw [ee] at h2; exact False.elim h2
      | some sl =>
        rw [ee] at h2
        cases sl with
        | no => exact False.elim h2
        | fz d => exact False.elim h2
        | ow d0 =>
          dsimp only at h2
          cases ez : putAt d0 k d with
          | none => rw [ez] at h2; exact False.elim h2
          | some z =>
            rw [ez] at h2
            obtain ⟨p', qp', t, _⟩ := R3.ow i _ ee
            rw [qp] at qp'
            cases qp'
            have qd : Rep X.K (Ow C (esc al d env) σ []) H2 d v := Rep.esc (g := gx X) (q.mv (Ext.ow R1 m2))
            have qk' : Rep X.K (Ow C (esc al d env) σ []) H2 k vk := qk.mv (Mv.sub fun a z => Ow.esc a z)
            refine put_core t qk' qd ez fun o top => ?_
            obtain ⟨o0, eo0, nt0⟩ := t.some
            have wp : Ow C (esc al d env) σ [] p := .inr ⟨i, _, ee, by simp, qp⟩
            obtain ⟨R4, m4⟩ := R3.upd (o := o) (d' := z) ee qp (top _ (Mv.wr eo0 nt0 wp))
            exact h2 σ _ R4 ((Mv.toSub R (m1.trans m2) fun a z => Ow.esc a z).trans m4)

/-! ### sets -/
def memL (l : List Key) (k : Key) : List Key := if memK l k = true then l else l ++ [k]
def sSAdd (i : Nat) (me : En S D) : En S Fl := fun env => match env[i]? with
  | some (.ow (.st l)) => M.bind (me env) fun d => match keyOf d with
    | some k => if l.length < 4000 then M.ret (.nx (env.set i (.ow (.st (memL l k))))) else M.fail
    | none => M.fail
  | _ => M.fail
theorem memK_snoc (l : List Key) (k : Key) : memK (l ++ [k]) = fun j => memK l j || decide (j = k) := by
  funext j
  simp [memK]
theorem memK_memL (l : List Key) (k : Key) : (fun j => memK l j || decide (j = k)) = memK (memL l k) := by
  unfold memL
  split
  · rename_i h
    funext j
    by_cases e : j = k
    · rw [e, h]; rfl
    · simp [e]
  · rw [memK_snoc]
theorem ds_sadd {p1 p2 cpos : Pos} (he : DE X C e al me) (hN : X.N[i]? = some x := by rfl) (hv : Vis X.env.scope x := by first | exact Or.inl rfl | exact Or.inr (Or.inl rfl))
    (hd : (x == ("__debug__" : Str)) = false := by decide +kernel) (hcd : (x == ("__classdict__" : Str)) = false := by decide +kernel)
    (hbase : attributeBase (.Name x p1) "add" X.env (eval (.Name x p1) X.env) = eval (.Name x p1) X.env := by rfl)
    (hfew : ((backTo cpos (starEach [e] X.env)).all (fun x => !x.1) && (backToKw cpos (keywordEach [] X.env)).all (fun x => x.1.isSome) && decide ([e].length + ([] : List Keyword).length + (if ([] : List Keyword).isEmpty then 0 else 1) < 30)) = true := by rfl)
    (hline : (p2.endLine == cpos.line) = true := by rfl) (hs : starEach [e] X.env = (false, eval e X.env) :: starEach [] X.env := by rfl) (hplain : (backTo cpos (starEach [] X.env)).any (·.1) = false := by rfl)
    (hsw : swapsWith (.Call (.Attribute (.Name x p1) "add" p2) [e] [] cpos) none pos.line X.env = pure false := by rfl) :
    DS X C (.Expr (.Call (.Attribute (.Name x p1) "add" p2) [e] [] cpos) pos) (sSAdd i me) := by
  refine ⟨PS_imp (ps_expr (pe_saddK (pe_var hN hv hd hcd) (pa_cons he.run pa_nil hs) hbase hfew hline hs hplain) hsw) fun Dn σ H ⟨env, s, R, h⟩ => ?_⟩
  unfold sSAdd at h
  cases ei : env[i]? with
  | none => rw [ei] at h; exact False.elim h
  | some sl =>
    rw [ei] at h
    cases sl with
    | no => exact False.elim h
    | fz d => exact False.elim h
    | ow dl =>
      cases dl with
      | st l =>
        obtain ⟨a, qa, t0, nav, nhb⟩ := R.ow i _ ei
        refine ⟨_, qa, ⟨a, _, _, rfl, t0⟩, env, s, R, bindE R famP h fun d s1 y H1 R1 m1 q h1 => ?_⟩
        cases ek : keyOf d with
        | none => rw [ek] at h1; exact False.elim h1
        | some k =>
          rw [ek] at h1
          dsimp only at h1
          split at h1
          · rename_i hl
            have := rep_key ek q
            subst this
            obtain ⟨b, qb, t1, _⟩ := R1.ow i _ ei
            rw [qa] at qb
            cases qb
            refine ⟨a, k, memK l, l.length, rfl, rfl, t1, by unfold scanBound; omega, ?_⟩
            have e2 : (if memK l k = true then l.length else l.length + 1) = (memL l k).length := by
              unfold memL
              split <;> simp
            rw [e2, memK_memL]
            obtain ⟨R3, m3⟩ := R1.upd (o := SetK X.prog X.w a (memK (memL l k)) (memL l k).length) (d' := .st (memL l k)) ei qa upd_same
            exact h1 σ _ R3 ((Ext.ow R m1).trans m3)
          · exact False.elim h1
      | _ => exact False.elim h
end
end DD
namespace DD
open PySem PySem.Spec PyProof.Rows L2
/-! ### list comprehensions -/
abbrev E00 : XK := fun _ _ _ => False
def wipeE (env : List Sl) : List Nat → List Sl
  | [] => env
  | v :: vs => (wipeE env vs).set v .no
theorem wipeE_length (env : List Sl) : ∀ vs : List Nat, (wipeE env vs).length = env.length
  | [] => rfl
  | v :: vs => by unfold wipeE; rw [List.length_set, wipeE_length env vs]
theorem wipeE_out {env : List Sl} {i : Nat} : ∀ {vs : List Nat}, i ∉ vs → (wipeE env vs)[i]? = env[i]?
  | [], _ => rfl
  | v :: vs, h => by
    have h1 : v ≠ i := fun e => h (by rw [e]; exact List.mem_cons_self)
    unfold wipeE
    rw [List.getElem?_set_ne h1]
    exact wipeE_out fun m => h (List.mem_cons_of_mem _ m)
theorem wipeE_in {env : List Sl} {i : Nat} {x : Sl} : ∀ {vs : List Nat}, (wipeE env vs)[i]? = some x → x = .no ∨ (i ∉ vs ∧ env[i]? = some x)
  | [], h => .inr ⟨by simp, h⟩
  | v :: vs, h => by
    unfold wipeE at h
    rcases set_get h with ⟨_, z, _⟩ | ⟨ne, h⟩
    · exact .inl z
    · rcases wipeE_in h with z | ⟨h1, h2⟩
      · exact .inl z
      · exact .inr ⟨by simp only [List.mem_cons, not_or]; exact ⟨Ne.symm ne, h1⟩, h2⟩
theorem wipe_in {σ : Sg} {i : Nat} : ∀ {vs : List Nat}, i ∈ vs → (wipe σ vs)[i]? = if i < σ.length then some none else none
  | v :: vs, h => by
    unfold wipe
    by_cases e : v = i
    · subst e
      by_cases hl : v < (wipe σ vs).length
      · rw [List.getElem?_set_self hl, if_pos (by rwa [wipe_length] at hl)]
      · rw [List.getElem?_eq_none (by simpa using hl), if_neg (by rwa [wipe_length] at hl)]
    · rw [List.getElem?_set_ne e]
      rcases List.mem_cons.mp h with z | z
      · exact (e z.symm).elim
      · exact wipe_in z
/-- the slots as a comprehension sees them: no own objects; those of al may be looked at -/
def rdo (al : List Nat) (env : List Sl) : List Sl := env.mapIdx fun i sl => match sl with
  | .ow d => if al.contains i && !d.isSt then .fz d else .no
  | x => x
theorem rdo_get {al : List Nat} {env : List Sl} {i : Nat} {x : Sl} (h : (rdo al env)[i]? = some x) : x = .no ∨ (∃ d, x = .fz d ∧ (env[i]? = some (.fz d) ∨ (env[i]? = some (.ow d) ∧ i ∈ al ∧ d.isSt = false))) := by
  unfold rdo at h
  rw [List.getElem?_mapIdx] at h
  cases e : env[i]? with
  | none => rw [e] at h; cases h
  | some y =>
    rw [e] at h
    have h := Option.some.inj h
    cases y with
    | no => exact .inl h.symm
    | fz d => exact .inr ⟨d, h.symm, .inl rfl⟩
    | ow d =>
      dsimp only at h
      split at h
      · rename_i hc
        simp only [Bool.and_eq_true, Bool.not_eq_true', List.contains_iff_mem] at hc
        exact .inr ⟨d, h.symm, .inr ⟨rfl, hc.1, hc.2⟩⟩
      · exact .inl h.symm
def noex {S α : Type} (m : M S α) : M S α := fun s => match m s with
  | .ok a s' => .ok a s'
  | _ => .bad
def compD {S : Type} (tgt : D → List Sl → Option (List Sl)) (tst : En S Bool) (elt : En S D) : List D → List Sl → M S (List D)
  | [], env => M.ret []
  | d :: ds, env => match tgt d env with
    | none => M.fail
    | some env' => M.bind (noex (tst env')) fun b => if b = true then M.bind (noex (elt env')) fun y => M.bind (compD tgt tst elt ds env) fun r => M.ret (y :: r) else compD tgt tst elt ds env
def eLc {S : Type} (al vs : List Nat) (mi : En S (List D)) (tgt : D → List Sl → Option (List Sl)) (tst : En S Bool) (elt : En S D) : En S D := fun env => M.bind (mi env) fun ds =>
  if ds.length ≤ 16777216 then M.bind (compD tgt tst elt ds (wipeE (rdo al env) vs)) fun r => M.ret (.lst r) else M.fail
theorem bnd_ok {S α β : Type} {m : M S α} {f : α → M S β} {s s1 : S} {a : α} (e : m s = .ok a s1) : M.bind m f s = f a s1 := by
  show (match m s with | .ok a s' => f a s' | .ex c fs s' => .ex c fs s' | .bad => .bad) = _
  rw [e]
theorem bnd_ex {S α β : Type} {m : M S α} {f : α → M S β} {s s1 : S} {c fs} (e : m s = .ex c fs s1) : M.bind m f s = .ex c fs s1 := by
  show (match m s with | .ok a s' => f a s' | .ex c fs s' => .ex c fs s' | .bad => .bad) = _
  rw [e]
theorem bnd_bad {S α β : Type} {m : M S α} {f : α → M S β} {s : S} (e : m s = .bad) : M.bind m f s = .bad := by
  show (match m s with | .ok a s' => f a s' | .ex c fs s' => .ex c fs s' | .bad => .bad) = _
  rw [e]
theorem noex_ok {S α : Type} {m : M S α} {s s' : S} {a : α} (h : noex m s = .ok a s') : m s = .ok a s' := by
  unfold noex at h
  split at h
  · rename_i e; cases h; exact e
  · cases h
theorem bind_ok {S α β : Type} {m : M S α} {f : α → M S β} {s s' : S} {b : β} (h : M.bind m f s = .ok b s') : ∃ a s1, m s = .ok a s1 ∧ f a s1 = .ok b s' := by
  unfold M.bind at h
  split at h
  · rename_i a s1 e; exact ⟨a, s1, e, h⟩
  · cases h
  · cases h
theorem bind_ex {S α β : Type} {m : M S α} {f : α → M S β} {s s' : S} {c fs} (h : M.bind m f s = .ex c fs s') : m s = .ex c fs s' ∨ ∃ a s1, m s = .ok a s1 ∧ f a s1 = .ex c fs s' := by
  unfold M.bind at h
  split at h
  · rename_i a s1 e; exact .inr ⟨a, s1, e, h⟩
  · rename_i e; cases h; exact .inl e
  · cases h
theorem noex_ex {S α : Type} {m : M S α} {s s' : S} {c fs} (h : noex m s = .ex c fs s') : False := by
  unfold noex at h
  split at h <;> cases h
theorem compD_noex {S : Type} {tgt : D → List Sl → Option (List Sl)} {tst : En S Bool} {elt : En S D} : ∀ {ds : List D} {env : List Sl} {s s' : S} {c fs}, compD tgt tst elt ds env s ≠ .ex c fs s'
  | [], env, s, s', c, fs => fun h => by cases h
  | d :: ds, env, s, s', c, fs => fun h => by
    unfold compD at h
    cases e : tgt d env with
    | none => rw [e] at h; cases h
    | some env' =>
      rw [e] at h
      dsimp only at h
      rcases bind_ex h with h | ⟨b, s1, _, h⟩
      · exact noex_ex h
      · by_cases hb : b = true
        · rw [if_pos hb] at h
          rcases bind_ex h with h | ⟨y, s2, _, h⟩
          · exact noex_ex h
          · rcases bind_ex h with h | ⟨y, s2, _, h⟩
            · exact compD_noex h
            · cases h
        · rw [if_neg hb] at h
          exact compD_noex h
section
variable {S : Type} {wd : Wd S} {X : Cx} {C : Dc wd} {al bl cl ai ts vs : List Nat} {iter tg c elt : Expr} {ifs : List Expr} {mi : En S (List D)} {me : En S D} {mt : En S Bool} {pos : Pos} {tgt : D → List Sl → Option (List Sl)}
def gC (g : Gx) (wd : Wd S) (b : Bool) (ts : List Nat) (tgt : D → List Sl → Option (List Sl)) : TG := fun v σ H Q => ∃ C' : Dc wd, C'.E = E00 ∧ lG g C' b ts tgt v σ H Q
def tC (g : Gx) (wd : Wd S) (mt : En S Bool) : TT := fun σ H Q => ∃ C' : Dc wd, C'.E = E00 ∧ lT g C' mt σ H Q
def eC' (g : Gx) (wd : Wd S) (al : List Nat) (me : En S D) : TE := fun σ H Q => ∃ C' : Dc wd, C'.E = E00 ∧ lE g C' al me σ H Q
/-- inside of a comprehension -/
theorem rdo_rel {g : Gx} {env : List Sl} {σ : Sg} {H1 H : Hp} {s1 s : S} {D : Addr} (R : RelE g C env σ H1 s1) (m : Ext C H1 H) (r : wd.rel s H) (n : H1 D = none) (hd : H D ≠ none) :
    ∃ C' : Dc wd, C'.E = E00 ∧ (∀ a, C'.av a ↔ (Ow C env σ al a ∨ a = D)) ∧ RelE g C' (wipeE (rdo al env) vs) (wipe σ vs) H s ∧ Mv (Ow C env σ al) H1 C'.av H := by
  have mv : Mv (Ow C env σ al) H1 (fun a => Ow C env σ al a ∨ a = D) H := fun a o h =>
    ⟨fun nw => ⟨((m a o h).1 fun f => nw (.inl (C.sub a f))).1, fun z => z.elim nw fun e => by rw [e, n] at h; cases h⟩, (m a o h).2⟩
  refine ⟨⟨fun a => Ow C env σ al a ∨ a = D, H, E00, fun a f => .inl (.inl (C.sub a f)), fun a z => z.elim (fun z => (R.step m r).here z) fun e => e ▸ hd⟩, rfl, fun a => Iff.rfl, ?_, mv⟩
  have sub : ∀ a, Ow (wd := wd) ⟨fun a => Ow C env σ al a ∨ a = D, H, E00, fun a f => .inl (.inl (C.sub a f)), fun a z => z.elim (fun z => (R.step m r).here z) fun e => e ▸ hd⟩ (wipeE (rdo al env) vs) (wipe σ vs) [] a → (Ow C env σ al a ∨ a = D) := by
    rintro a (z | ⟨i, d, e, _⟩)
    · exact z
    · rcases wipeE_in e with z | ⟨_, z⟩
      · cases z
      · rcases rdo_get z with z | ⟨_, z, _⟩
        · cases z
        · cases z
  refine ⟨?_, Mv.refl, r, fun i d e => ?_, fun i d e => ?_, fun i j d e a h1 h2 => ?_⟩
  · rw [wipeE_length, wipe_length]
    unfold rdo
    rw [List.length_mapIdx]
    exact R.len
  · rcases wipeE_in e with z | ⟨nv, z⟩
    · cases z
    · rw [wipe_out nv]
      rcases rdo_get z with z | ⟨d', z, h | ⟨h, hi, hs⟩⟩
      · cases z
      · cases z
        obtain ⟨v, q, h⟩ := R.fz i d h
        exact ⟨v, q, ((h.mv (Mv.sub (W' := Ow C env σ al) Ow.nil)).mv mv).mv (Mv.sub sub)⟩
      · cases z
        obtain ⟨a, q, t, _⟩ := R.ow i d h
        refine ⟨_, q, ((Top.rep ?_ (fun l z => by rw [z] at hs; cases hs) (t.mv (Mv.sub (W' := Ow C env σ al) Ow.nil) rfl)).mv mv).mv (Mv.sub sub)⟩
        exact fun z => R.own_out (al := al) h q (Ow.sub (fun j hj => (List.mem_cons.mp hj).elim (fun e => e ▸ hi) id) a z)
  · rcases wipeE_in e with z | ⟨nv, z⟩
    · cases z
    · rcases rdo_get z with z | ⟨d', z, _⟩ <;> cases z
  · rcases wipeE_in h1 with z | ⟨nv, z⟩
    · cases z
    · rcases rdo_get z with z | ⟨d', z, _⟩ <;> cases z
theorem wipe_ext {σ σ2 : Sg} (hl : σ2.length = σ.length) (h : ∀ j, j ∉ vs → σ2[j]? = σ[j]?) : wipe σ2 vs = wipe σ vs := by
  apply List.ext_getElem?
  intro j
  by_cases hj : j ∈ vs
  · rw [wipe_in hj, wipe_in hj, hl]
  · rw [wipe_out hj, wipe_out hj]; exact h j hj
theorem lc_imp {w : Bool} (hts : ∀ j, j ∈ ts → j ∈ vs) (hai : ∀ j, j ∈ ai → j ∈ al) (σ : Sg) (H : Hp) (Q : VK) (h : lF (gx X) C al (eLc al vs mi tgt mt me) σ H Q) :
    tLc (lI (gx X) C w ai mi) (gC (gx X) wd w ts tgt) (tC (gx X) wd mt) (eC' (gx X) wd cl me) vs σ H Q := by
  obtain ⟨env, s, R, h⟩ := h
  unfold eLc at h
  refine ⟨env, s, R, ?_⟩
  have main : ∀ ds s1 (_ : ds.length ≤ 16777216) r s2 (_ : compD tgt mt me ds (wipeE (rdo al env) vs) s1 = .ok r s2) J P H1, Ext C H H1 → wd.rel s1 H1 → ItD (gx X) wd w J P ds → P (Ow C env σ ai) H1 →
      ResF (gx X) C (Ow C env σ al) H (M.ret (.lst r) s2) Q → ∀ D, H1 D = none → ∃ W : Nat → Nat → Hp → Prop, (∃ m, W 0 m (upd H1 D (.lst []))) ∧ ∀ i m H, W i m H →
  (J.stop i H ∧ Q (.ref D) H) ∨ (J.go i H ∧ ∃ Nx : Hp → Prop, (∀ H', Nx H' → ∃ m', m' < m ∧ W (i + 1) m' H') ∧ ∀ x H', J.yld i H x H' → gC (gx X) wd w ts tgt x (wipe σ vs) H' fun σ2 H2 => wipe σ2 vs = wipe σ vs ∧ tC (gx X) wd mt σ2 H2 fun b H3 =>
    if b = true then eC' (gx X) wd cl me σ2 H3 fun y H4 => ∃ acc, H4 D = some (.lst acc) ∧ acc.length < sizeLine ∧ Nx (upd H4 D (.lst (acc ++ [y]))) else Nx H3) := by
    intro ds s1 hz r s2 hr J P H1 m1 r1 it p1 hQ p0 hn
    have R1 := R.step m1 r1
    have nf : ∀ a, wd.foot a → a ≠ p0 := fun a f z => wd.here r1 f (z ▸ hn)
    let W' : Set' := fun a => Ow C env σ al a ∨ a = p0
    -- a turn's heap
    let T : Nat → List D → List V → S → Hp → Prop := fun i acc xs s H => H p0 = some (.lst xs) ∧ Reps X.K W' H acc xs ∧ acc.length ≤ i ∧ Mv wd.foot H1 wd.foot H ∧ wd.rel s H ∧ P W' H
    refine ⟨fun i m H => m = ds.length - i ∧ i ≤ ds.length ∧ ∃ acc xs s r', T i acc xs s H ∧ compD tgt mt me (ds.drop i) (wipeE (rdo al env) vs) s = .ok r' s2 ∧ acc ++ r' = r, ?_, ?_⟩
    · have mN : Mv wd.foot H1 wd.foot (upd H1 p0 (.lst [])) := (Mv.new hn).thin fun a z => .inl z
      refine ⟨_, rfl, Nat.zero_le _, [], [], s1, r, ⟨upd_same, .nil, Nat.le_refl _, mN, wd.loc r1 fun a f => upd_ne (nf a f), ?_⟩, by rw [List.drop_zero]; exact hr, rfl⟩
      exact it.mv ((Mv.sub (W' := Ow C env σ al) (Ow.sub hai)).trans (Mv.new hn)) p1
    · rintro i m H2 ⟨rfl, hi, acc, xs, s3, r', ⟨hD, ra, la, m2, r2, p2⟩, hr', er⟩
      by_cases e : i = ds.length
      · refine .inl ⟨it.stop p2 e, ?_⟩
        rw [e, List.drop_length] at hr'
        cases hr'
        rw [List.append_nil] at er
        subst er
        exact hQ p0 H2 (m1.trans m2) r2 (Ext.back m1 r1 hn) ⟨xs, hD, ra⟩
      · have hlt : i < ds.length := by omega
        refine .inr ⟨it.go p2 hlt, fun H5 => ∃ acc xs s r', T (i + 1) acc xs s H5 ∧ compD tgt mt me (ds.drop (i + 1)) (wipeE (rdo al env) vs) s = .ok r' s2 ∧ acc ++ r' = r, ?_, ?_⟩
        · rintro H5 ⟨acc', xs', s5, r5, t5, h5, e5⟩
          exact ⟨ds.length - (i + 1), by omega, rfl, by omega, acc', xs', s5, r5, t5, h5, e5⟩
        · intro x H3 y
          have here : ∀ a, W' a → H2 a ≠ none := fun a z => z.elim (fun z => (R1.step m2 r2).here z) fun e => by rw [e, hD]; exact fun z => by cases z
          obtain ⟨m3, r3, q3⟩ := it.yld p2 r2 here (fun a f => .inl (.inl (C.sub a f))) (List.getElem?_eq_getElem hlt) y
          have nfD : ¬ wd.foot p0 := fun f => nf p0 f rfl
          have keep : ∀ {H H' : Hp} {xs : List V}, Mv wd.foot H wd.foot H' → H p0 = some (.lst xs) → H' p0 = some (.lst xs) := fun m h => ((m p0 _ h).1 nfD).1
          have mvW : ∀ {H H' : Hp}, Mv wd.foot H wd.foot H' → Mv W' H W' H' := fun m a o h => ⟨fun nw => ⟨((m a o h).1 fun f => nw (.inl (.inl (C.sub a f)))).1, nw⟩, (m a o h).2⟩
          have hD3 := keep m3 hD
          obtain ⟨C3, hE3, av3, R3, _⟩ := rdo_rel (al := al) (vs := vs) R1 (m2.trans m3) r3 hn (by rw [hD3]; exact fun z => by cases z)
          have toW : ∀ {a : Addr} {env2 : List Sl} {σ2 : Sg} {al2 : List Nat} {C3 : Dc wd}, (∀ a, C3.av a ↔ W' a) → (∀ (j : Nat) d, env2[j]? ≠ some (Sl.ow d)) → (W' a ↔ Ow C3 env2 σ2 al2 a) := by
            intro a env2 σ2 al2 C3 av3 no
            refine ⟨fun z => .inl ((av3 a).mpr z), ?_⟩
            rintro (z | ⟨j, d, e, _⟩)
            · exact (av3 a).mp z
            · exact (no j d e).elim
          have no0 : ∀ (j : Nat) d, (wipeE (rdo al env) vs)[j]? ≠ some (Sl.ow d) := fun j d e => by
            rcases wipeE_in e with z | ⟨nv, z⟩
            · cases z
            · rcases rdo_get z with z | ⟨d', z, _⟩ <;> cases z
          rw [List.drop_eq_getElem_cons hlt] at hr'
          unfold compD at hr'
          cases et : tgt ds[i] (wipeE (rdo al env) vs) with
          | none => rw [et] at hr'; cases hr'
          | some env2 =>
            rw [et] at hr'
            dsimp only at hr'
            refine ⟨C3, hE3, _, s3, ds[i], env2, R3, q3.sub (fun a z => (toW av3 no0).mpr z), et, fun σ2 R4 sub fr ow => ⟨?_, ?_⟩⟩
            · rw [wipe_ext (σ := wipe σ vs) fr.1 fun j hj => (fr.2 j fun z => hj (hts j z)).1]
              exact wipe_ext (by rw [wipe_length]) fun j hj => wipe_out hj
            · have no2 : ∀ (j : Nat) d, env2[j]? ≠ some (Sl.ow d) := fun j d e => no0 j d (ow j d e)
              obtain ⟨b, s4, hb, hr4⟩ := bind_ok hr'
              have hb := noex_ok hb
              refine ⟨C3, hE3, env2, s3, R4, ?_⟩
              rw [hb]
              intro H4 m4 r4
              cases b with
              | false =>
                rw [if_neg Bool.false_ne_true] at hr4 ⊢
                have m34 := m3.trans m4
                exact ⟨acc, xs, s4, r', ⟨keep m34 hD, ra.mv (mvW m34), by omega, m2.trans m34, r4, it.mv (mvW m34) p2⟩, hr4, er⟩
              | true =>
                rw [if_pos rfl] at hr4 ⊢
                obtain ⟨yd, s5, hy, hr5⟩ := bind_ok hr4
                have hy := noex_ok hy
                obtain ⟨r6, s6, hr6, hq⟩ := bind_ok hr5
                cases hq
                refine ⟨C3, hE3, env2, s4, R4.step m4 r4, ?_⟩
                rw [hy]
                intro v H5 m5 r5 q5
                have m35 := (m3.trans m4).trans m5
                have hD5 := keep m35 hD
                refine ⟨xs, hD5, ?_, acc ++ [yd], xs ++ [v], s5, r6, ⟨upd_same, ?_, by simp; omega, ?_, ?_, ?_⟩, hr6, ?_⟩
                · rw [(ra).length, sizeLine_eq]; omega
                · have mw : Mv W' H5 W' (upd H5 p0 (.lst (xs ++ [v]))) := Mv.wr hD5 rfl (.inr rfl)
                  exact ((ra.mv (mvW m35)).append (.cons (q5.mv (Mv.sub fun a z => (toW av3 no2).mp z)) .nil)).mv mw
                · intro a o h
                  have ne : a ≠ p0 := fun z => by rw [z, hn] at h; cases h
                  have := (m2.trans m35) a o h
                  exact ⟨fun nw => ⟨by rw [upd_ne ne]; exact (this.1 nw).1, (this.1 nw).2⟩, fun e => by rw [upd_ne ne]; exact this.2 e⟩
                · exact wd.loc r5 fun a f => upd_ne (nf a f)
                · have mw : Mv W' H5 W' (upd H5 p0 (.lst (xs ++ [v]))) := Mv.wr hD5 rfl (.inr rfl)
                  exact it.mv ((mvW m35).trans mw) p2
                · rw [← er]; simp
  cases e : mi env s with
  | ok ds s1 =>
    rw [bnd_ok e] at h
    by_cases hz : ds.length ≤ 16777216
    · rw [if_pos hz] at h
      cases er : compD tgt mt me ds (wipeE (rdo al env) vs) s1 with
      | ok r s2 =>
        rw [bnd_ok er] at h
        exact fun J P H1 m1 r1 it p1 => main ds s1 hz r s2 er J P H1 m1 r1 it p1 h
      | ex c fs s2 => exact (compD_noex er).elim
      | bad => rw [bnd_bad er] at h; exact False.elim h
    · rw [if_neg hz] at h
      exact False.elim h
  | ex c fs s1 => rw [bnd_ex e] at h; exact h
  | bad => rw [bnd_bad e] at h; exact h
/-- the tests of a clause -/
structure DTs (X : Cx) (C : Dc wd) (ifs : List Expr) (m : En S Bool) : Prop where
  run : PTs X ifs (lT (gx X) C m)
def tYesD : En S Bool := fun _ => M.ret true
theorem PTs_imp {t t' : TT} (h : PTs X ifs t) (i : ∀ σ H Q, t' σ H Q → t σ H Q) : PTs X ifs t' := ⟨fun pins s σ H Q I q => h.run pins s σ H Q I (i σ H Q q)⟩
theorem dts_nil : DTs X C [] tYesD := ⟨PTs_imp pts_nil fun σ H Q ⟨env, s, R, h⟩ => h H Mv.refl R.rel⟩
theorem dts_one (h : DT X C c mt) : DTs X C [c] mt := ⟨pts_one h.run⟩
abbrev blkX (X : Cx) (s : Shared) (H : Hp) (scope : Scope) (cs : List (Str × Addr)) (Ca : Addr) (fp : List Addr) : Cx := X.blk s H scope (compEnvC scope cs Ca X.env) fp
theorem CF.blk {lv : Nat} (F : CF lv X C) (s : Shared) (H : Hp) (scope : Scope) (cs : List (Str × Addr)) (Ca : Addr) (fp : List Addr) {C' : Dc wd} (e : C'.E = E00) : CF lv (blkX X s H scope cs Ca fp) C' where
  calm := F.calm
  nd := F.nd
  room := F.room
  tk := fun u s' x => by
    obtain ⟨_, _, _, _, _, _, _, _, _, _, _, _, _, _, _, _, q⟩ := x
    rw [e] at q
    exact q
  po := PassesOwn.never
theorem gC_pg {Y : Cx} {w : Bool} (h : ∀ C' : Dc wd, C'.E = E00 → DG Y C' w tg ts tgt) : PG Y tg (gC (gx Y) wd w ts tgt) := ⟨fun pins s σ H v u Q I r ⟨C', e, q⟩ => (h C' e).run.run pins s σ H v u Q I r q⟩
theorem tC_pt {Y : Cx} (h : ∀ C' : Dc wd, C'.E = E00 → DTs Y C' ifs mt) : PTs Y ifs (tC (gx Y) wd mt) := ⟨fun pins s σ H Q I ⟨C', e, q⟩ => (h C' e).run.run pins s σ H Q I q⟩
theorem eC_pe {Y : Cx} (h : ∀ C' : Dc wd, C'.E = E00 → DE Y C' c cl me) : PE Y c (eC' (gx Y) wd cl me) := ⟨fun pins s σ H Q I ⟨C', e, q⟩ => (h C' e).run.run pins s σ H Q I q⟩
variable {scope : Scope} {own : List (Str × Nat)} {lv : Nat}
theorem df_lc (al : List Nat) (own : List (Str × Nat)) {w : Bool} (F : CF lv X C) (hi : DI X C w tg iter ai mi) (hg : ∀ s H Ca cs fp (C' : Dc wd), CF lv (blkX X s H scope cs Ca fp) C' → DG (blkX X s H scope cs Ca fp) C' w tg ts tgt)
    (ht : ∀ s H Ca cs fp (C' : Dc wd), CF lv (blkX X s H scope cs Ca fp) C' → DTs (blkX X s H scope cs Ca fp) C' ifs mt)
    (he : ∀ s H Ca cs fp (C' : Dc wd), CF lv (blkX X s H scope cs Ca fp) C' → DE (blkX X s H scope cs Ca fp) C' elt cl me)
    (ok : blkC X.N X.env.scope scope own = true := by kernel_rfl) (hts : ∀ j, j ∈ ts → j ∈ own.map (·.2) := by decide) (hai : ∀ j, j ∈ ai → j ∈ al := by decide)
    (hs : ∀ x, foldedSetIterable iter X.env x = pure x := by intro _; rfl) : DF X C (.ListComp elt [⟨tg, iter, ifs, 0⟩] scope pos) al (eLc al (own.map (·.2)) mi tgt mt me) :=
  ⟨PE_imp (pe_lc (g := gC (gx X) wd w ts tgt) (tt := tC (gx X) wd mt) (te := eC' (gx X) wd cl me) F.calm F.nd hi.run (blkOk_by ok) (fun s H Ca cs fp => gC_pg (Y := blkX X s H scope cs Ca fp) fun C' e => hg s H Ca cs fp C' (F.blk s H scope cs Ca fp e))
    (fun s H Ca cs fp => tC_pt (Y := blkX X s H scope cs Ca fp) fun C' e => ht s H Ca cs fp C' (F.blk s H scope cs Ca fp e)) (fun s H Ca cs fp => eC_pe (Y := blkX X s H scope cs Ca fp) fun C' e => he s H Ca cs fp C' (F.blk s H scope cs Ca fp e)) hs)
    fun σ H Q h => lc_imp hts hai σ H Q h⟩
theorem ds_setLc {py lpos : Pos} {i : Nat} {x : Str} (al : List Nat) (own : List (Str × Nat)) {w : Bool} (F : CF lv X C) (hi : DI X C w tg iter ai mi) (hg : ∀ s H Ca cs fp (C' : Dc wd), CF lv (blkX X s H scope cs Ca fp) C' → DG (blkX X s H scope cs Ca fp) C' w tg ts tgt)
    (ht : ∀ s H Ca cs fp (C' : Dc wd), CF lv (blkX X s H scope cs Ca fp) C' → DTs (blkX X s H scope cs Ca fp) C' ifs mt)
    (he : ∀ s H Ca cs fp (C' : Dc wd), CF lv (blkX X s H scope cs Ca fp) C' → DE (blkX X s H scope cs Ca fp) C' elt cl me)
    (hN : X.N[i]? = some x := by rfl) (hx : X.env.scope.names.lookup x = some .local := by rfl) (hsw : swapsWith (.ListComp elt [⟨tg, iter, ifs, 0⟩] scope lpos) (some (.Name x py)) pos.line X.env = pure true := by exact sw_true rfl rfl rfl rfl)
    (ok : blkC X.N X.env.scope scope own = true := by kernel_rfl) (hts : ∀ j, j ∈ ts → j ∈ own.map (·.2) := by decide) (hai : ∀ j, j ∈ ai → j ∈ al := by decide)
    (hs : ∀ x, foldedSetIterable iter X.env x = pure x := by intro _; rfl) : DS X C (.Assign [.Name x py] (.ListComp elt [⟨tg, iter, ifs, 0⟩] scope lpos) pos) (sAsgF i al (eLc al (own.map (·.2)) mi tgt mt me)) := by
  refine ⟨PS_imp (ps_setLc (g := gC (gx X) wd w ts tgt) (tt := tC (gx X) wd mt) (te := eC' (gx X) wd cl me) F.calm F.nd hN hx hsw hi.run (blkOk_by ok) (fun s H Ca cs fp => gC_pg (Y := blkX X s H scope cs Ca fp) fun C' e => hg s H Ca cs fp C' (F.blk s H scope cs Ca fp e))
    (fun s H Ca cs fp => tC_pt (Y := blkX X s H scope cs Ca fp) fun C' e => ht s H Ca cs fp C' (F.blk s H scope cs Ca fp e)) (fun s H Ca cs fp => eC_pe (Y := blkX X s H scope cs Ca fp) fun C' e => he s H Ca cs fp C' (F.blk s H scope cs Ca fp e)) hs) fun Dn σ H ⟨env, s, R, h⟩ => ?_⟩
  refine lc_imp hts hai σ H _ ⟨env, s, R, ?_⟩
  unfold sAsgF at h
  exact bindF R famP h fun d s1 p H1 R1 m1 n q h1 => asgF_post R m1 R1.rel n q h1
end
end DD
namespace DD
open PySem PySem.Spec PyProof.Rows L2
/-! ### defs -/
section
variable {S : Type}
/-- a call's end -/
def ResC (g : Gx) (wd : Wd S) (W : Set') (H : Hp) (E : XK) (o : Out S D) (Q : VK) : Prop := match o with
  | .ok d s' => ∀ v H', Mv wd.foot H wd.foot H' → wd.rel s' H' → Rep g.K W H' d v → Q v H'
  | .ex c fs s' => ExP g wd H E c fs s'
  | .bad => False
def spD (g : Gx) (wd : Wd S) (n : Nat) (fn : List D → M S D) : Sp := fun vs H Q E => ∃ (W : Set') (ds : List D) (s : S), (∀ a, wd.foot a → W a) ∧ (∀ a, W a → H a ≠ none) ∧ wd.rel s H ∧ Reps g.K W H ds vs ∧ ds.length = n ∧ ResC g wd W H E (fn ds s) Q
/-- the def named x, of n parameters, computes fn -/
structure FnD (g : Gx) (base : Heap) (lv : Nat) (wd : Wd S) (x : Str) (n : Nat) (fn : List D → M S D) : Prop where
  ex : ∃ (f : Addr) (fd : FuncData) (ps : List Str), g.mg x = some (.ref f) ∧ PySem.W.keepIn g.K (.ref f) = true ∧ FnOk g.P g.w g.K g.mg base (L2.CX g.P g.w) lv f fd ps (spD g wd n fn) ∧ Binds g.K fd ps []
theorem FnD.up {g : Gx} {base : Heap} {lv lv' : Nat} {wd : Wd S} {x : Str} {n : Nat} {fn : List D → M S D} (h : FnD g base lv wd x n fn) (le : lv ≤ lv') : FnD g base lv' wd x n fn := by
  obtain ⟨f, fd, ps, h1, h2, h3, h4⟩ := h.ex
  exact ⟨f, fd, ps, h1, h2, h3.mono le, h4⟩
/-- a body as a function of its arguments; k slots -/
def runD (k : Nat) (m : En S Fl) : List D → M S D := fun ds => M.bind (m (ds.map .fz ++ List.replicate (k - ds.length) .no)) fun f => match f with
  | .nx _ => M.ret .non
  | .rt d => M.ret d
  | _ => M.fail
variable {wd : Wd S} {X : Cx} {C : Dc wd} {al : List Nat} {e : Expr} {es : List Expr} {mr : En S (List D)} {lv lv' n : Nat} {x : Str} {fn : List D → M S D} {p pos : Pos}
def eCall (fn : List D → M S D) (n : Nat) (mr : En S (List D)) : En S D := fun env => M.bind (mr env) fun ds => if ds.length = n then fn ds else M.fail
theorem call_imp {env : List Sl} {σ : Sg} {H : Hp} {s : S} {Q : VK} {f : Addr} {fd : FuncData} {ps : List Str} (R : RelE (gx X) C env σ H s) (h : ResE (gx X) C (Ow C env σ al) H (eCall fn n mr env s) Q) :
    ResA (gx X) C (Ow C env σ al) H (mr env s) fun vs H1 => spD (gx X) wd n fn (vs ++ []) H1 Q C.E := by
  unfold eCall at h
  refine bindA R famE h fun ds s1 vs H1 R1 m1 q1 h1 => ?_
  rw [List.append_nil]
  by_cases hl : ds.length = n
  · rw [if_pos hl] at h1
    refine ⟨Ow C env σ al, ds, s1, fun a z => .inl (C.sub a z), fun a z => R1.here z, R1.rel, q1, hl, ?_⟩
    cases ef : fn ds s1 with
    | ok d s' => rw [ef] at h1; exact fun v H' m r q => h1 v H' m r q
    | ex c fs s' => rw [ef] at h1; exact ExP.mono h1 R1.ext
    | bad => rw [ef] at h1; exact h1
  · rw [if_neg hl] at h1
    exact False.elim h1
theorem de_call (F : CF lv X C) (h : FnD (gx X) X.base lv' wd x n fn) (ha : DA X C (e :: es) al mr) (le : lv' ≤ lv := by decide) (hg : Gl X x := by rfl) (hdb : (x == ("__debug__" : Str)) = false := by decide +kernel)
    (he : starEach (e :: es) X.env = (false, eval e X.env) :: starEach es X.env := by rfl) (hpl : (backTo pos (starEach es X.env)).any (·.1) = false := by rfl) : DE X C (.Call (.Name x p) (e :: es) [] pos) al (eCall fn n mr) := by
  obtain ⟨f, fd, ps, h1, h2, h3, h4⟩ := h.ex
  exact ⟨PE_imp (pe_call h3 (F.room.mono le) hg h1 h2 h4 .nil F.pas ha.run hdb he hpl) fun σ H Q ⟨env, s, R, q⟩ => ⟨env, s, R, call_imp (f := f) (fd := fd) (ps := ps) R q⟩⟩
theorem de_call0 (F : CF lv X C) (h : FnD (gx X) X.base lv' wd x n fn) (le : lv' ≤ lv := by decide) (hg : Gl X x := by rfl) (hdb : (x == ("__debug__" : Str)) = false := by decide +kernel) : DE X C (.Call (.Name x p) [] [] pos) [] (eCall fn n aNil) := by
  obtain ⟨f, fd, ps, h1, h2, h3, h4⟩ := h.ex
  refine ⟨PE_imp (pe_call0 h3 (F.room.mono le) hg h1 h2 h4 .nil F.pas hdb) fun σ H Q ⟨env, s, R, q⟩ => ?_⟩
  have := call_imp (al := []) (mr := aNil) (f := f) (fd := fd) (ps := ps) R q
  exact this [] H Mv.refl R.rel .nil

/-! ### THE RULE for a def -/
theorem start_rel {g : Gx} {C : Dc wd} {k : Nat} {N : List Str} {ds : List D} {vs : List V} {H : Hp} {s : S} (hk : N.length = k) (he : C.Hb = H) (r : wd.rel s H) (q : Reps g.K C.av H ds vs) : RelE g C (ds.map .fz ++ List.replicate (k - ds.length) .no) (L2.start N vs) H s := by
  have hl := q.length
  have noow : ∀ (i : Nat) d, (ds.map Sl.fz ++ List.replicate (k - ds.length) Sl.no)[i]? ≠ some (Sl.ow d) := fun i d e => by
    rw [List.getElem?_append] at e
    split at e
    · rw [List.getElem?_map] at e
      obtain ⟨_, _, z⟩ := Option.map_eq_some_iff.mp e
      cases z
    · rw [List.getElem?_replicate] at e
      split at e
      · cases e
      · cases e
  refine ⟨?_, he ▸ Mv.refl, r, fun i d e => ?_, fun i d e => (noow i d e).elim, fun i j d e a h1 => (noow i d h1).elim⟩
  · unfold L2.start
    simp only [List.length_append, List.length_map, List.length_replicate, hl, hk]
  · rw [List.getElem?_append] at e
    split at e
    · rename_i hi
      rw [List.getElem?_map] at e
      obtain ⟨d', ed, z⟩ := Option.map_eq_some_iff.mp e
      cases z
      obtain ⟨v, ev, rv⟩ := q.get ed
      refine ⟨v, ?_, rv.mv (Mv.sub ?_)⟩
      · unfold L2.start
        rw [List.getElem?_append_left (by rw [List.length_map, hl]; simpa using hi), List.getElem?_map, ev]
        rfl
      · rintro a (z | ⟨j, d2, e2, _⟩)
        · exact z
        · exact (noow j d2 e2).elim
    · rw [List.getElem?_replicate] at e
      split at e
      · cases e
      · cases e
theorem fnD_of {P : Program} {w : World} {K : PySem.W.Frag} {mg : Str → Option Value} {base : Heap} {qual : Str} {params : Arguments} {body : List Stmt} {scope : Scope} {f : Addr} {fd : FuncData} {N ps : List Str} {m : En S Fl} {k : Nat}
    (F : FunD K x qual params body scope [] [] f fd) (hm : mg x = some (.ref f)) (Sc : FnScope N ps scope) (hn : ps.length = n) (hk : N.length = k)
    (hb : ∀ (kV doc pm : Value) (an : Option Addr) (cdv ct : Value) (us : List Value), us.length = ps.length → bindArgs (PySem.W.fnOf x qual params body scope .none kV doc pm an cdv ct) ⟨us, []⟩ = pure (ps.zip us))
    (hbody : ∀ (cdv : Value) (A : Around) (outer : List Env) (s : Shared) (H : Hp) (E : XK) (C : Dc wd), CF lv (cxOf (L2.CX P w) P w K mg base N qual scope f cdv A outer s H E) C → DSs (cxOf (L2.CX P w) P w K mg base N qual scope f cdv A outer s H E) C body m) :
    FnD ⟨P, w, K, mg⟩ base (lv + 1) wd x n (runD k m) := by
  refine ⟨f, fd, ps, hm, F.kp, F.ok Sc (fun vs H Q E h => ?_) (fun cdv A outer s H vs Q E hr h => ?_), F.bindsN hb⟩
  · obtain ⟨W, ds, s, _, _, _, q, hl, _⟩ := h
    rw [q.length, hl, hn]
  · obtain ⟨W, ds, st, sub, low, r, q, hl, h⟩ := h
    let C : Dc wd := ⟨W, H, E, sub, low⟩
    have cf : CF lv (cxOf (L2.CX P w) P w K mg base N qual scope f cdv A outer s H E) C := ⟨rfl, Sc.nd, hr, takes_of rfl rfl rfl rfl, passes_of rfl⟩
    refine ⟨_, (hbody cdv A outer s H E C cf).run, ds.map Sl.fz ++ List.replicate (k - ds.length) Sl.no, st, start_rel (g := ⟨P, w, K, mg⟩) (C := C) (H := H) hk rfl r q, ?_⟩
    unfold runD M.bind at h
    cases e : m (ds.map .fz ++ List.replicate (k - ds.length) .no) st with
    | ok fl s' =>
      rw [e] at h
      cases fl with
      | nx env => exact fun σ H' R mv => h .non H' R.ext R.rel (by simp only [Rep])
      | rt d => exact fun v H' mv rl rp => h v H' mv rl rp
      | bk env => exact False.elim h
      | ct env => exact False.elim h
    | ex c fs s' => rw [e] at h; exact h
    | bad => rw [e] at h; exact h
/-- nothing is asked of a def that is never reached -/
theorem fnD_fail {P : Program} {w : World} {K : PySem.W.Frag} {mg : Str → Option Value} {base : Heap} {qual : Str} {params : Arguments} {body : List Stmt} {scope : Scope} {f : Addr} {fd : FuncData} {ps : List Str}
    (F : FunD K x qual params body scope [] [] f fd) (hm : mg x = some (.ref f))
    (hb : ∀ (kV doc pm : Value) (an : Option Addr) (cdv ct : Value) (us : List Value), us.length = ps.length → bindArgs (PySem.W.fnOf x qual params body scope .none kV doc pm an cdv ct) ⟨us, []⟩ = pure (ps.zip us)) :
    FnD ⟨P, w, K, mg⟩ base lv wd x n (fun _ => M.fail) :=
  ⟨f, fd, ps, hm, F.kp, ⟨fun vs H Q E ⟨_, _, _, _, _, _, _, _, h⟩ => False.elim h, fun A outer s H args us vs Q E hr _ _ _ ⟨_, _, _, _, _, _, _, _, h⟩ => False.elim h⟩, F.bindsN hb⟩

/-! ### raise -/
/-- a made exception's class: its fields in order -/
def spIni (K : PySem.W.Frag) (fl : List Str) : Sp := fun vs H Q _ => ∃ (a Ca : Addr) (ys : List V), vs = .ref a :: ys ∧ ys.length = fl.length ∧ OexC K Ca ∧ (∀ f ∈ fl, PySem.W.findIn K (.ref Ca) f = some none) ∧ H a = some (exo a Ca none) ∧
  ∀ dx H2, H dx = none → dx ≠ a → H2 a = some (exo a Ca (some dx)) → H2 dx = some (exd dx (fl.zip ys).reverse) → (∀ b, b ≠ a → b ≠ dx → H2 b = H b) → Q .non H2
structure XcD (g : Gx) (base : Heap) (lv : Nat) (x : Str) (fl : List Str) : Prop where
  ex : ∃ (Ca fI : Addr) (fd : FuncData) (ps : List Str), OexC g.K Ca ∧ PySem.W.findIn g.K (.ref Ca) "__init__" = some (some (.ref fI)) ∧ PySem.W.typeIn g.K (.ref fI) = some (.type "function") ∧ g.mg x = some (.ref Ca) ∧ (∀ f ∈ fl, PySem.W.findIn g.K (.ref Ca) f = some none) ∧
    FnOk g.P g.w g.K g.mg base (L2.CX g.P g.w) lv fI fd ps (spIni g.K fl) ∧ Binds g.K fd ps []
def M.exn {α : Type} (c : Str) (fs : List (Str × D)) : M S α := fun s => .ex c fs s
def sRaise (c : Str) (fl : List Str) (mr : En S (List D)) : En S Fl := fun env => M.bind (mr env) fun ds => if ds.length = fl.length ∧ fl.length ≤ 900 then M.exn c (fl.zip ds).reverse else M.fail
theorem repF_zip {K : PySem.W.Frag} {W : Set'} {H : Hp} : ∀ {fl : List Str} {ds : List D} {vs : List V}, Reps K W H ds vs → RepF K W H (fl.zip ds) (fl.zip vs)
  | [], _, _, _ => rfl
  | f :: fl, [], vs, h => by simp only [Reps] at h; subst h; exact rfl
  | f :: fl, d :: ds, vs, h => by
    simp only [Reps] at h
    obtain ⟨v, r, rfl, h1, h2⟩ := h
    exact ⟨v, _, rfl, h1, repF_zip h2⟩
theorem repF_append {K : PySem.W.Frag} {W : Set'} {H : Hp} : ∀ {a b : List (Str × D)} {u v : List (Str × V)}, RepF K W H a u → RepF K W H b v → RepF K W H (a ++ b) (u ++ v)
  | [], _, _, _, h, q => by cases h; exact q
  | (f, d) :: a, b, u, v, ⟨x, r, e, h1, h2⟩, q => by subst e; exact ⟨x, _, rfl, h1, repF_append h2 q⟩
theorem repF_rev {K : PySem.W.Frag} {W : Set'} {H : Hp} : ∀ {a : List (Str × D)} {u : List (Str × V)}, RepF K W H a u → RepF K W H a.reverse u.reverse
  | [], _, h => by cases h; exact rfl
  | (f, d) :: a, u, ⟨x, r, e, h1, h2⟩ => by
    subst e
    simp only [List.reverse_cons]
    exact repF_append (repF_rev h2) ⟨x, [], rfl, h1, rfl⟩
theorem ds_raise {fl : List Str} {lx : Nat} (F : CF lv X C) (h : XcD (gx X) X.base lx x fl) (ha : DA X C (e :: es) al mr) (le : lx + 1 ≤ lv := by decide) (hg : Gl X x := by rfl) (hdb : (x == ("__debug__" : Str)) = false := by decide +kernel)
    (he : starEach (e :: es) X.env = (false, eval e X.env) :: starEach es X.env := by rfl) (hpl : (backTo pos (starEach es X.env)).any (·.1) = false := by rfl) {pos' : Pos} :
    DS X C (.Raise (some (.Call (.Name x p) (e :: es) [] pos)) none pos') (sRaise x fl mr) := by
  obtain ⟨Ca, fI, fd, ps, T, iC, tI, hm, hf, F1, hb⟩ := h.ex
  refine ⟨PS_imp (ps_raise F.calm F.tk (pmk_oex T iC tI F1 (F.room.mono le) hb .nil (CX := L2.CX X.prog X.w) (fun pins σ H s e s' I c => by obtain ⟨_, _, _, _, _, _, _, _, _, _, _, _, q⟩ := c; exact False.elim q) hg hm ha.run hdb he hpl)) fun Dn σ H ⟨env, s, R, h⟩ => ?_⟩
  unfold sRaise at h
  refine ⟨env, s, R, bindA R famP h fun ds s1 vs H1 R1 m1 q h1 => ?_⟩
  by_cases hl : ds.length = fl.length ∧ fl.length ≤ 900
  · rw [if_pos hl] at h1
    refine ⟨by rw [q.length]; omega, fun a hn => ?_⟩
    rw [List.append_nil]
    refine ⟨a, Ca, vs, rfl, by rw [q.length]; exact hl.1, T, hf, upd_same, fun dx H2 nd ne ea ed rest => ⟨rfl, dx, _, ea, ed, ?_, ?_⟩⟩
    · rw [upd_ne ne] at nd; exact nd
    · rw [upd_ne ne] at nd
      have old : ∀ b o, H1 b = some o → upd (del H2 a) dx (.xd (fl.zip vs).reverse) b = some o := fun b o e => by
        have n1 : b ≠ a := fun z => by rw [z, hn] at e; cases e
        have n2 : b ≠ dx := fun z => by rw [z, nd] at e; cases e
        rw [upd_ne n2, del_ne n1, rest b n1 n2, upd_ne n1]
        exact e
      have mv : Mv wd.foot H1 wd.foot (upd (del H2 a) dx (.xd (fl.zip vs).reverse)) := fun b o e => ⟨fun nw => ⟨old b o e, nw⟩, fun _ => old b o e⟩
      refine h1 Ca dx _ _ hm (R1.ext.trans mv) (wd.loc R1.rel fun b f => ?_) upd_same ?_
      · cases eb : H1 b with
        | none => exact (wd.here R1.rel f eb).elim
        | some o => exact old b o eb
      · exact (repF_rev (repF_zip (q.mv (Mv.sub fun a z => .inl (C.sub a z))))).mv mv
  · rw [if_neg hl] at h1
    exact False.elim h1
end
end DD
namespace DD
open PySem PySem.Spec PyProof.Rows L2
/-! ### __init__ of an exception class -/
section
variable {P : Program} {w : World} {K : PySem.W.Frag} {mg : Str → Option Value} {base : Heap} {qual x : Str} {params : Arguments} {body : List Stmt} {scope : Scope} {fI Ca : Addr} {fd : FuncData} {N ps : List Str} {f1 f2 : Str}
theorem xcD1 (F : FunD K "__init__" qual params body scope [] [] fI fd) (Sc : FnScope N ps scope) (hps : ps.length = 2)
    (hb : ∀ (kV doc pm : Value) (an : Option Addr) (cdv ct : Value) (us : List Value), us.length = ps.length → bindArgs (PySem.W.fnOf "__init__" qual params body scope .none kV doc pm an cdv ct) ⟨us, []⟩ = pure (ps.zip us))
    (T : OexC K Ca) (iC : PySem.W.findIn K (.ref Ca) "__init__" = some (some (.ref fI))) (tI : PySem.W.typeIn K (.ref fI) = some (.type "function")) (hm : mg x = some (.ref Ca)) (hf : PySem.W.findIn K (.ref Ca) f1 = some none)
    (hbody : ∀ (cdv : Value) (A : Around) (outer : List Env) (s : Shared) (H : Hp) (E : XK), PSs (cxOf (L2.CX P w) P w K mg base N qual scope fI cdv A outer s H E) body (tOst K f1 (tVar 0) (tVar 1))) : XcD ⟨P, w, K, mg⟩ base 1 x [f1] := by
  refine ⟨Ca, fI, fd, ps, T, iC, tI, hm, by simpa using hf, F.ok Sc (fun vs H Q E h => ?_) (fun cdv A outer s H vs Q E hr h => ⟨_, hbody cdv A outer s H E, ?_⟩), F.bindsN hb⟩
  · obtain ⟨a, C', ys, rfl, hl, _⟩ := h
    simp [hl, hps]
  · obtain ⟨a, C', ys, rfl, hl, T', hf', ha, q⟩ := h
    match ys, hl with
    | [y], _ =>
      refine ⟨y, rfl, .ref a, rfl, a, C', rfl, T', hf' f1 (by simp), .inl ⟨ha, fun dx nd ne => q dx _ nd ne upd_same ?_ fun b n1 n2 => ?_⟩⟩
      · rw [upd_ne ne, upd_same]; rfl
      · rw [upd_ne n1, upd_ne n2]
theorem xcD2 (F : FunD K "__init__" qual params body scope [] [] fI fd) (Sc : FnScope N ps scope) (hps : ps.length = 3)
    (hb : ∀ (kV doc pm : Value) (an : Option Addr) (cdv ct : Value) (us : List Value), us.length = ps.length → bindArgs (PySem.W.fnOf "__init__" qual params body scope .none kV doc pm an cdv ct) ⟨us, []⟩ = pure (ps.zip us))
    (T : OexC K Ca) (iC : PySem.W.findIn K (.ref Ca) "__init__" = some (some (.ref fI))) (tI : PySem.W.typeIn K (.ref fI) = some (.type "function")) (hm : mg x = some (.ref Ca)) (hf : PySem.W.findIn K (.ref Ca) f1 = some none) (hf2 : PySem.W.findIn K (.ref Ca) f2 = some none)
    (hbody : ∀ (cdv : Value) (A : Around) (outer : List Env) (s : Shared) (H : Hp) (E : XK), PSs (cxOf (L2.CX P w) P w K mg base N qual scope fI cdv A outer s H E) body (tSeq (tOst K f1 (tVar 0) (tVar 1)) (tOst K f2 (tVar 0) (tVar 2)))) : XcD ⟨P, w, K, mg⟩ base 1 x [f1, f2] := by
  refine ⟨Ca, fI, fd, ps, T, iC, tI, hm, by simp [hf, hf2], F.ok Sc (fun vs H Q E h => ?_) (fun cdv A outer s H vs Q E hr h => ⟨_, hbody cdv A outer s H E, ?_⟩), F.bindsN hb⟩
  · obtain ⟨a, C', ys, rfl, hl, _⟩ := h
    simp [hl, hps]
  · obtain ⟨a, C', ys, rfl, hl, T', hf', ha, q⟩ := h
    match ys, hl with
    | [y, z], _ =>
      refine ⟨y, rfl, .ref a, rfl, a, C', rfl, T', hf' f1 (by simp), .inl ⟨ha, fun dx nd ne => ?_⟩⟩
      refine ⟨z, rfl, .ref a, rfl, a, C', rfl, T', hf' f2 (by simp), .inr ⟨dx, _, upd_same, by rw [upd_ne ne, upd_same], by simp, q dx _ nd ne ?_ ?_ fun b n1 n2 => ?_⟩⟩
      · rw [upd_ne (Ne.symm ne), upd_same]
      · rw [upd_same]; rfl
      · rw [upd_ne n2, upd_ne n1, upd_ne n2]
end
/-! ### try: f(..), except X as n: return (n.f, ..) -/
structure XfD (g : Gx) (x : Str) (fl : List Str) : Prop where
  ex : ∃ Ca : Addr, g.mg x = some (.ref Ca) ∧ XfC g.K Ca ∧ PySem.W.exmOne g.K (.ref Ca) (.ref Ca) = some true ∧ ∀ f ∈ fl, PySem.W.findIn g.K (.ref Ca) f = some none
section
variable {S : Type} {wd : Wd S} {X : Cx} {C : Dc wd} {al : List Nat} {e : Expr} {es : List Expr} {mr : En S (List D)} {lv lv' n i : Nat} {x xc nm f1 f2 : Str} {fn : List D → M S D} {p pos cpos np p1 p2 p3 p4 tpos rpos hpos epos : Pos}
def tryRes (i : Nat) (x f1 f2 : Str) (env : List Sl) : Out S D → Out S Fl
  | .ok _ s' => .ok (.nx env) s'
  | .ex c fs s' => if c = x then (match fs.lookup f1, fs.lookup f2 with
    | some d1, some d2 => if d1.hard && d2.hard && decide (i < env.length) then .ok (.rt (.tup [d1, d2])) s' else .bad
    | _, _ => .bad) else .bad
  | .bad => .bad
def sTry2 (i : Nat) (x f1 f2 : Str) (fn : List D → M S D) (n : Nat) (mr : En S (List D)) : En S Fl := fun env s => match mr env s with
  | .ok ds s1 => if ds.length = n then tryRes i x f1 f2 env (fn ds s1) else .bad
  | _ => .bad
theorem repF_lookup {K : PySem.W.Frag} {W : Set'} {H : Hp} {f : Str} {d : D} : ∀ {fs : List (Str × D)} {vs : List (Str × V)}, RepF K W H fs vs → fs.lookup f = some d → ∃ v, vs.lookup f = some v ∧ Rep K W H d v
  | [], _, _, h => by cases h
  | (k, e) :: fs, vs, ⟨v, r, ev, h1, h2⟩, h => by
    subst ev
    rw [List.lookup_cons] at h ⊢
    cases hk : f == k with
    | true => rw [hk] at h; cases h; exact ⟨v, rfl, h1⟩
    | false => rw [hk] at h; exact repF_lookup h2 h
abbrev noE (C : Dc wd) : Dc wd := ⟨C.av, C.Hb, E00, C.sub, C.low⟩
theorem RelE.noE {g : Gx} {env : List Sl} {σ : Sg} {H : Hp} {s : S} (R : RelE g C env σ H s) : RelE g (DD.noE C) env σ H s := ⟨R.len, R.ext, R.rel, R.fz, R.ow, R.inj⟩
theorem ds_try2 {tk : Nat} (F : CF lv X C) (h : FnD (gx X) X.base lv' wd x n fn) (T : XfD (gx X) xc [f1, f2])
    (ha : ∀ pn xe, CF lv (X.tr pn xe) (noE C) → DA (X.tr pn xe) (noE C) (e :: es) al mr)
    (hs : X.stack = X.env :: X.outer := by rfl) (hf : X.env.frame = some X.env.locals := by rfl) (hi : X.N[i]? = some nm := by rfl) (hln : X.env.kindOf nm = some .local := by rfl) (hgc : Gl X xc := by rfl) (hdc : (xc == ("__debug__" : Str)) = false := by decide +kernel)
    (le : lv' ≤ lv := by decide) (hg : Gl X x := by rfl) (hdb : (x == ("__debug__" : Str)) = false := by decide +kernel)
    (he : starEach (e :: es) X.env = (false, eval e X.env) :: starEach es X.env := by rfl) (hpl : (backTo cpos (starEach es X.env)).any (·.1) = false := by rfl)
    (hsw : swapsWith (.Call (.Name x p) (e :: es) [] cpos) none epos.line X.env = pure false := by rfl)
    (hdn : (nm == ("__debug__" : Str)) = false := by decide +kernel) (hcd : (nm == ("__classdict__" : Str)) = false := by decide +kernel)
    (hb1 : attributeBase (.Name nm p1) f1 X.env (eval (.Name nm p1) X.env) = eval (.Name nm p1) X.env := by rfl) (hb2 : attributeBase (.Name nm p3) f2 X.env (eval (.Name nm p3) X.env) = eval (.Name nm p3) X.env := by rfl)
    (hs1 : starEach [.Attribute (.Name nm p1) f1 p2, .Attribute (.Name nm p3) f2 p4] X.env = (false, eval (.Attribute (.Name nm p1) f1 p2) X.env) :: starEach [.Attribute (.Name nm p3) f2 p4] X.env := by rfl)
    (hs2 : starEach [.Attribute (.Name nm p3) f2 p4] X.env = (false, eval (.Attribute (.Name nm p3) f2 p4) X.env) :: starEach [] X.env := by rfl) :
    DS X C (.Try [.Expr (.Call (.Name x p) (e :: es) [] cpos) epos] [.ExceptHandler (some (.Name xc np)) (some nm) [.Return (some (.Tuple [.Attribute (.Name nm p1) f1 p2, .Attribute (.Name nm p3) f2 p4] tk tpos)) rpos] hpos] [] [] pos) (sTry2 i xc f1 f2 fn n mr) := by
  obtain ⟨f, fd, ps, h1, h2, h3, h4⟩ := h.ex
  obtain ⟨Ca, hm, xf, ht, hfn⟩ := T.ex
  have hloc : X.env.scope.names.lookup nm = some .local := hln
  refine ⟨PS_imp (ps_try_as (c := .ref Ca) (Wout := fun cls d _ H => C.E cls d H) hs hf F.nd hi hln ⟨hgc, hdc, .inl hm⟩ F.tk
    (tb := fun W Dn σ H => tDrop (tCallS (spD (gx X) wd n fn) (WE W) (lA (gx X) (noE C) al mr)) Dn σ H)
    (ts := fun a cls d Dn σ H => tRet (tTupZ (tCons (tXf a cls d Ca f1 (tVar i)) (tCons (tXf a cls d Ca f2 (tVar i)) tNil))) Dn σ H) (fun W pn xe tk po => ?_) (fun a oe cls d pn hz hfl => ?_)) fun Dn σ H ⟨env, s, R, h⟩ => ?_⟩
  · exact pss_one (ps_expr (pe_callS (X := X.tr pn xe) h3 (F.room.mono le) hg h1 h2 h4 (passAt tk) (ha pn xe ⟨F.calm, F.nd, F.room, fun u s' x => by
      obtain ⟨_, _, _, _, _, _, _, _, _, _, _, _, _, _, _, _, q⟩ := x
      exact False.elim q, po⟩).run hdb he hpl) hsw)
  · exact pss_one (ps_ret (pe_tupZ (pa_cons (pe_xf (X := X) xf (hfn f1 (by simp)) hz hfl (pe_var hi (.inl hloc) hdn hcd) hb1) (pa_cons (pe_xf (X := X) xf (hfn f2 (by simp)) hz hfl (pe_var hi (.inl hloc) hdn hcd) hb2) pa_nil hs2) hs1)))
  · unfold sTry2 at h
    refine ⟨env, s, R.noE, ?_⟩
    cases em : mr env s with
    | bad => rw [em] at h; exact False.elim h
    | ex c fs s1 => rw [em] at h; exact False.elim h
    | ok ds s1 =>
      rw [em] at h
      dsimp only at h
      intro vs H1 m1 r1 q1
      have R1 := R.step m1 r1
      by_cases hl : ds.length = n
      · rw [if_pos hl] at h
        refine ⟨Ow C env σ al, ds, s1, fun a z => .inl (C.sub a z), fun a z => R1.here z, r1, q1, hl, ?_⟩
        cases ef : fn ds s1 with
        | bad => rw [ef] at h; exact False.elim h
        | ok d s2 =>
          rw [ef] at h
          exact fun v H2 m2 r2 _ => h σ H2 (R1.step m2 r2) (Ext.ow R (m1.trans m2))
        | ex c fs s2 =>
          rw [ef] at h
          unfold tryRes at h
          dsimp only at h
          by_cases hc : c = xc
          · subst hc
            rw [if_pos rfl] at h
            cases e1 : fs.lookup f1 with
            | none => rw [e1] at h; exact False.elim h
            | some d1 =>
              cases e2 : fs.lookup f2 with
              | none => rw [e1, e2] at h; exact False.elim h
              | some d2 =>
                rw [e1, e2] at h
                dsimp only at h
                split at h
                · rename_i hh
                  simp only [Bool.and_eq_true, decide_eq_true_eq] at hh
                  obtain ⟨⟨hh1, hh2⟩, hi'⟩ := hh
                  intro Cx dd vs2 H2 gm m2 r2 hd rf
                  have : Cx = Ca := by
                    have z := hm.symm.trans gm
                    injection z with z
                    injection z with z
                    exact z.symm
                  subst this
                  obtain ⟨v1, l1, q1⟩ := repF_lookup rf e1
                  obtain ⟨v2, l2, q2⟩ := repF_lookup rf e2
                  refine ⟨true, ht, fun _ a na => ?_, fun z => by cases z⟩
                  have hget : (σ.set i (some (V.ref a)))[i]? = some (some (V.ref a)) := List.getElem?_set_self (by rw [← R.len]; exact hi')
                  refine ⟨.ref a, hget, rfl, rfl, dd, vs2, v1, rfl, hd, l1, .ref a, hget, rfl, rfl, dd, vs2, v2, rfl, hd, l2, small4096 (by simp), fun p o hp ho => ?_⟩
                  obtain ⟨m3, r3, m4⟩ := Wd.laidX wd (o := .frz o (.tup [v1, v2])) r2 hp C.sub
                  refine h _ _ ((R1.ext.trans m2).trans m3) r3 ?_
                  simp only [Rep]
                  exact ⟨p, _, rfl, .at ho, .cons ((Rep.hard hh1 q1).mv (m4.thin fun a z => .inl z)) (.cons ((Rep.hard hh2 q2).mv (m4.thin fun a z => .inl z)) .nil)⟩
                · exact False.elim h
          · rw [if_neg hc] at h; exact False.elim h
      · rw [if_neg hl] at h
        exact False.elim h
end
end DD
namespace DD
open PySem PySem.Spec PyProof.Rows L2
/-! ### the world without a state; the jar -/
def wd0 : Wd Unit := ⟨fun _ => False, fun _ _ => True, fun _ _ => trivial, fun _ h => h.elim, fun _ h => h.elim⟩
structure JS where
  k : Nat
  cells : List Int
def jarW (A0 A1 : Addr) : Wd JS where
  foot := fun a => a = A0 ∨ a = A1
  rel := fun s H => H A0 = some (.lst [.int (s.k : Int), .ref A1]) ∧ H A1 = some (.lst (s.cells.map V.int)) ∧ A0 ≠ A1
  loc := fun ⟨h1, h2, h3⟩ e => ⟨(e A0 (.inl rfl)).trans h1, (e A1 (.inr rfl)).trans h2, h3⟩
  here := fun {s H a} ⟨h1, h2, h3⟩ f z => by
    rcases f with rfl | rfl
    · rw [z] at h1; cases h1
    · rw [z] at h2; cases h2
  flat := fun {s H a o} ⟨h1, h2, h3⟩ f z => by
    rcases f with rfl | rfl
    · rw [z] at h1; cases h1; rfl
    · rw [z] at h2; cases h2; rfl
section
variable {A0 A1 : Addr} {X : Cx} {C : Dc (jarW A0 A1)} {al bl : List Nat} {a b e ix : Expr} {es : List Expr} {ma mb me mx : En JS D} {mr : En JS (List D)} {pos p : Pos} {i : Nat} {x : Str}
def ixJ (A0 A1 : Addr) (d e : D) : M JS D := fun s => match d, e with
  | .opq v, .int i => if v = .ref A0 then (if i = 0 then .ok (.int (s.k : Int)) s else if i = 1 then .ok (.opq (.ref A1)) s else .bad) else if v = .ref A1 then (match atI s.cells i with
    | some c => .ok (.int c) s
    | none => .bad) else .bad
  | _, _ => .bad
def eIxJ (A0 A1 : Addr) (ma mb : En JS D) : En JS D := fun env => M.bind (ma env) fun d => M.bind (mb env) fun e => ixJ A0 A1 d e
theorem atI_map {α β : Type} {f : α → β} {l : List α} {i : Int} {c : α} (h : atI l i = some c) : atI (l.map f) i = some (f c) := by
  unfold atI at h ⊢
  rw [List.length_map]
  obtain ⟨j, h1, h2⟩ := Option.bind_eq_some_iff.mp h
  rw [h1]
  show (l.map f)[j]? = _
  rw [List.getElem?_map, h2]
  rfl
theorem de_ixJ (ha : DE X C a al ma) (hb : DE X C b bl mb) (hs : PlainIx b) : DE X C (.Subscript a b pos) [] (eIxJ A0 A1 ma mb) := by
  refine ⟨PE_imp (pe_ix ix_seq ha.run hb.run hs) fun σ H Q ⟨env, s, R, h⟩ => ?_⟩
  unfold eIxJ at h
  refine ⟨env, s, R, bindE R famE h fun d s1 v H1 R1 m1 q1 h1 => ⟨env, s1, R1, bindE R1 famE h1 fun e s2 u H2 R2 m2 q2 h2 => ?_⟩⟩
  have q1 := q1.mv (Ext.ow R1 m2)
  unfold ixJ at h2
  split at h2
  · rename_i w i
    simp only [Rep] at q1 q2
    subst q1 q2
    obtain ⟨h0, hc, ne⟩ := R2.rel
    split at h2
    · rename_i e0
      subst e0
      split at h2
      · rename_i ei
        subst ei
        exact .inl ⟨A0, _, 0, _, rfl, rfl, .inl (.inl h0), rfl, h2 _ H2 Mv.refl R2.rel (by simp only [Rep])⟩
      · split at h2
        · rename_i ei
          subst ei
          exact .inl ⟨A0, _, 1, _, rfl, rfl, .inl (.inl h0), rfl, h2 _ H2 Mv.refl R2.rel (by simp only [Rep])⟩
        · exact False.elim h2
    · split at h2
      · rename_i e1
        subst e1
        split at h2
        · rename_i c ec
          exact .inl ⟨A1, _, _, _, rfl, rfl, .inl (.inl hc), atI_map ec, h2 _ H2 Mv.refl R2.rel (by simp only [Rep])⟩
        · exact False.elim h2
      · exact False.elim h2
  · exact False.elim h2
def lenJ (A1 : Addr) (ds : List D) : M JS D := fun s => match ds with
  | [.opq v] => if v = .ref A1 then .ok (.int (s.cells.length : Nat)) s else .bad
  | _ => .bad
def eLenJ (A1 : Addr) (mr : En JS (List D)) : En JS D := fun env => M.bind (mr env) (lenJ A1)
theorem de_lenJ (hm : X.mg "len" = none) (ha : DA X C (e :: es) al mr) (hg : Gl X "len" := by rfl)
    (he : starEach (e :: es) X.env = (false, eval e X.env) :: starEach es X.env := by rfl) (hpl : (backTo pos (starEach es X.env)).any (·.1) = false := by rfl) : DE X C (.Call (.Name "len" p) (e :: es) [] pos) [] (eLenJ A1 mr) := by
  refine ⟨PE_imp (pe_callB call_len hg hm (by decide +kernel) ha.run (by decide +kernel) (by decide +kernel) he hpl) fun σ H Q ⟨env, s, R, h⟩ => ?_⟩
  unfold eLenJ at h
  refine ⟨env, s, R, bindA R famE h fun ds s1 vs H1 R1 m1 q1 h1 => ?_⟩
  unfold lenJ at h1
  split at h1
  · rename_i w
    obtain ⟨v, rfl, hv⟩ := reps1 q1
    simp only [Rep] at hv
    subst hv
    obtain ⟨h0, hc, ne⟩ := R1.rel
    split at h1
    · rename_i e1
      subst e1
      exact ⟨_, (s1.cells.map V.int).length, rfl, .inl ⟨_, .inl (.inl hc), rfl⟩, h1 _ H1 Mv.refl R1.rel (by rw [List.length_map]; simp only [Rep])⟩
    · exact False.elim h1
  · exact False.elim h1
def putJ (A0 A1 : Addr) (v : V) (k d : D) (env : List Sl) : M JS Fl := fun s => match k, d with
  | .int j, .int c => if v = .ref A0 then (if j = 0 ∧ 0 ≤ c then .ok (.nx env) { s with k := c.toNat } else .bad) else if v = .ref A1 then (match ixN s.cells.length j with
    | some n => .ok (.nx env) { s with cells := s.cells.set n c }
    | none => .bad) else .bad
  | _, _ => .bad
def sPutJ (A0 A1 : Addr) (i : Nat) (me mx : En JS D) : En JS Fl := fun env => M.bind (me env) fun d => match env[i]? with
  | some (.fz (.opq v)) => M.bind (mx env) fun k => putJ A0 A1 v k d env
  | _ => M.fail
theorem ds_putJ {p1 p2 : Pos} (he : DE X C e al me) (hx : DE X C ix bl mx) (hN : X.N[i]? = some x := by rfl) (hv : Vis X.env.scope x := by first | exact Or.inl rfl | exact Or.inr (Or.inl rfl))
    (hd : (x == ("__debug__" : Str)) = false := by decide +kernel) (hcd : (x == ("__classdict__" : Str)) = false := by decide +kernel)
    (ha : ∀ v, assign (.Subscript (.Name x p1) ix p2) X.env v = (do
      let ov ← holding [v] (eval (.Name x p1) X.env)
      let iv ← holding [v, ov] (eval ix X.env)
      standAt p2
      holding [v, ov, iv] (setItem ov iv v)
      release [v, ov, iv] []) := by intro _; rfl)
    (hs : swapsWithSole [.Subscript (.Name x p1) ix p2] e pos.line X.env = pure false := by rfl) (hw : swappedStores [.Subscript (.Name x p1) ix p2] e X.env = pure none := by rfl)
    (h1 : (assignEach [.Subscript (.Name x p1) ix p2] X.env).map (·.2) = [assign (.Subscript (.Name x p1) ix p2) X.env] := by rfl) :
    DS X C (.Assign [.Subscript (.Name x p1) ix p2] e pos) (sPutJ A0 A1 i me mx) := by
  refine ⟨PS_imp (ps_asg he.run (pg_sub (pe_var hN hv hd hcd) hx.run set_list ha) hs hw h1) fun Dn σ H ⟨env, s, R, h⟩ => ?_⟩
  unfold sPutJ at h
  refine ⟨env, s, R, bindE R famP h fun d s1 v H1 R1 m1 q h1 => ?_⟩
  have main : ∀ w, env[i]? = some (.fz (.opq w)) → Post (gx X) C Dn (Ow C env σ []) H (M.bind (mx env) (fun k => putJ A0 A1 w k d env) s1) → gSub (tVar i) (lE (gx X) C bl mx) rSetL v σ H1 Dn.nx := by
    intro w ei h1
    obtain ⟨u, qu, hu⟩ := R1.fz i _ ei
    simp only [Rep] at hu
    subst hu
    refine ⟨_, qu, env, s1, R1, bindE R1 famP h1 fun k s2 vk H2 R2 m2 qk h2 => ?_⟩
    have q := q.mv (Ext.ow R1 m2)
    obtain ⟨h0, hc, ne⟩ := R2.rel
    unfold putJ at h2
    cases k with
    | int j =>
      cases d with
      | int c =>
        simp only [Rep] at q qk
        subst q qk
        have fin : ∀ (A : Addr) (o u : HO) s', (jarW A0 A1).foot A → H2 A = some u → isT u = false → (jarW A0 A1).rel s' (L2.upd H2 A o) → Post (gx X) C Dn (Ow C env σ []) H (.ok (.nx env) s') → Dn.nx σ (L2.upd H2 A o) := fun A o u s' fA eA nt r h => by
          have m3 : Ext C H2 (L2.upd H2 A o) := Mv.wr eA nt fA
          exact h σ _ (R2.step m3 r) (Ext.ow R (m1.trans (m2.trans m3)))
        dsimp only at h2
        by_cases e0 : u = .ref A0
        · subst e0
          rw [if_pos rfl] at h2
          by_cases hj : j = 0 ∧ 0 ≤ c
          · rw [if_pos hj] at h2
            obtain ⟨rfl, hc0⟩ := hj
            refine ⟨A0, _, 0, 0, rfl, rfl, h0, rfl, fin A0 _ _ _ (.inl rfl) h0 rfl ⟨?_, ?_, ne⟩ h2⟩
            · rw [upd_same]
              show some (HO.lst [.int c, .ref A1]) = some (HO.lst [.int ((c.toNat : Nat) : Int), .ref A1])
              rw [Int.toNat_of_nonneg hc0]
            · rw [upd_ne (Ne.symm ne)]; exact hc
          · rw [if_neg hj] at h2
            exact False.elim h2
        · rw [if_neg e0] at h2
          by_cases e1 : u = .ref A1
          · subst e1
            rw [if_pos rfl] at h2
            cases en : ixN s2.cells.length j with
            | none => rw [en] at h2; exact False.elim h2
            | some n =>
              rw [en] at h2
              refine ⟨A1, _, j, n, rfl, rfl, hc, by rw [List.length_map]; exact en, fin A1 _ _ _ (.inr rfl) hc rfl ⟨?_, ?_, ne⟩ h2⟩
              · rw [upd_ne ne]; exact h0
              · rw [upd_same, List.map_set]
          · rw [if_neg e1] at h2
            exact False.elim h2
      | _ => exact False.elim h2
    | _ => exact False.elim h2
  cases ei : env[i]? with
  | none => rw [ei] at h1; exact False.elim h1
  | some sl =>
    rw [ei] at h1
    cases sl with
    | fz d1 =>
      cases d1 with
      | opq w => exact main w ei h1
      | _ => exact False.elim h1
    | no => exact False.elim h1
    | ow d1 => exact False.elim h1
end
end DD
namespace DD
open PySem PySem.Spec PyProof.Rows L2
section
variable {S : Type} {wd : Wd S} {X : Cx} {C : Dc wd} {lv : Nat}
theorem CF.u65 (F : CF lv X C) : X.A.units + 65 < cLine := by have := F.room.un; omega
theorem CF.u64 (F : CF lv X C) : X.A.units + 64 < cLine := by have := F.room.un; omega
theorem CF.u1 (F : CF lv X C) : X.A.units + 1 < cLine := by have := F.room.un; omega
theorem CF.u0 (F : CF lv X C) : X.A.units < cLine := by have := F.room.un; omega
theorem XcD.up {g : Gx} {base : Heap} {lv lv' : Nat} {x : Str} {fl : List Str} (h : XcD g base lv x fl) (le : lv ≤ lv') : XcD g base lv' x fl := by
  obtain ⟨Ca, fI, fd, ps, h1, h2, h3, h4, h5, h6, h7⟩ := h.ex
  exact ⟨Ca, fI, fd, ps, h1, h2, h3, h4, h5, h6.mono le, h7⟩
theorem CF.down {lv lv' : Nat} (F : CF lv X C) (le : lv' ≤ lv) : CF lv' X C := ⟨F.calm, F.nd, F.room.mono le, F.tk, F.po⟩
theorem ok_bind {α β : Type} {m : M S α} {f : α → M S β} {s s' : S} {b : β} (h : M.bind m f s = .ok b s') : ∃ a s1, m s = .ok a s1 ∧ f a s1 = .ok b s' := bind_ok h
theorem lc_ns {al vs : List Nat} {mi : En S (List D)} {tgt : D → List Sl → Option (List Sl)} {tst : En S Bool} {elt : En S D} (env : List Sl) (s : S) (d : D) (s' : S) (h : eLc al vs mi tgt tst elt env s = .ok d s') : d.isSt = false := by
  obtain ⟨ds, s1, _, h⟩ := bind_ok h
  by_cases hz : ds.length ≤ 16777216
  · rw [if_pos hz] at h
    obtain ⟨r, s2, _, h⟩ := bind_ok h
    cases h
    rfl
  · rw [if_neg hz] at h
    cases h
theorem list_ns {mr : En S (List D)} (env : List Sl) (s : S) (d : D) (s' : S) (h : eCB dList mr env s = .ok d s') : d.isSt = false := by
  obtain ⟨ds, s1, _, h⟩ := bind_ok h
  cases e : dList ds with
  | none => rw [e] at h; cases h
  | some z =>
    rw [e] at h
    cases h
    unfold dList at e
    split at e <;> first | (cases e; rfl) | cases e
def dSet0 : List D → Option D
  | [] => some (.st [])
  | _ => none
theorem vnf_set0 : VNF X.prog X.w X.K X.mg wd (rSet0K X.prog X.w) dSet0 := by
  intro W H s xs ds z Q r hW hf h1 h k
  unfold dSet0 at h
  split at h
  · cases h
    simp only [Reps] at h1
    subst h1
    refine ⟨rfl, fun p hp => ?_⟩
    obtain ⟨m1, r1, _⟩ := Wd.laidX wd (o := SetK X.prog X.w p (fun _ => false) 0) r hp hf
    exact k p _ m1 r1 hp upd_same
  · cases h
/-- x += e on ints -/
theorem v2_ipadd : V2 X.K wd (ipI fun i j => i + j) (dI2 fun i j => some (.int (i + j))) := by
  intro W H s x y d e z Q r hW hf h1 h2 h k
  obtain ⟨i, j, rfl, rfl, hz⟩ := dI2_some h
  cases hz
  simp only [Rep] at h1 h2
  exact ⟨i, j, h1, h2, k _ H Mv.refl r (by simp only [Rep])⟩
theorem v2_ipsub : V2 X.K wd (ipI fun i j => i - j) (dI2 fun i j => some (.int (i - j))) := by
  intro W H s x y d e z Q r hW hf h1 h2 h k
  obtain ⟨i, j, rfl, rfl, hz⟩ := dI2_some h
  cases hz
  simp only [Rep] at h1 h2
  exact ⟨i, j, h1, h2, k _ H Mv.refl r (by simp only [Rep])⟩
/-- d in s, s one's own set -/
def tInS (neg : Bool) (i : Nat) (me : En S D) : En S Bool := fun env => M.bind (me env) fun d => match env[i]? with
  | some (.ow (.st l)) => match keyOf d with
    | some k => M.ret (if neg = true then !memK l k else memK l k)
    | none => M.fail
  | _ => M.fail
variable {al : List Nat} {e : Expr} {me : En S D} {x : Str} {pos p : Pos} {i : Nat}
theorem inS_core (neg : Bool) {op : CmpOp} (ho : OpR X (compareOp op) (rSInK X.prog X.w neg)) (he : DE X C e al me) (hb : behindInMarks op (.Name x p) = false) (hN : X.N[i]? = some x) (hv : Vis X.env.scope x) (hd : (x == ("__debug__" : Str)) = false) (hcd : (x == ("__classdict__" : Str)) = false) :
    DT X C (.Compare e [op] [.Name x p] pos) (tInS neg i me) := by
  refine ⟨PT_imp (pt_cmpR ho he.run (pe_var hN hv hd hcd) hb) fun σ H Q ⟨env, s, R, h⟩ => ?_⟩
  unfold tInS at h
  refine ⟨env, s, R, bindE R famT h fun d s1 v H1 R1 m1 q1 h1 => ?_⟩
  cases ei : env[i]? with
  | none => rw [ei] at h1; exact False.elim h1
  | some sl =>
    rw [ei] at h1
    cases sl with
    | no => exact False.elim h1
    | fz d => exact False.elim h1
    | ow dl =>
      cases dl with
      | st l =>
        dsimp only at h1
        cases ek : keyOf d with
        | none => rw [ek] at h1; exact False.elim h1
        | some k =>
          rw [ek] at h1
          obtain ⟨a, qa, t, _⟩ := R1.ow i _ ei
          exact ⟨_, qa, k, a, _, _, rep_key ek q1, rfl, t, _, rfl, h1 H1 Mv.refl R1.rel⟩
      | _ => exact False.elim h1
theorem dt_inS (he : DE X C e al me) (hN : X.N[i]? = some x := by rfl) (hv : Vis X.env.scope x := by first | exact Or.inl rfl | exact Or.inr (Or.inl rfl)) (hd : (x == ("__debug__" : Str)) = false := by decide +kernel) (hcd : (x == ("__classdict__" : Str)) = false := by decide +kernel) :
    DT X C (.Compare e [.In] [.Name x p] pos) (tInS false i me) := inS_core false or_sinK he rfl hN hv hd hcd
theorem dt_notInS (he : DE X C e al me) (hN : X.N[i]? = some x := by rfl) (hv : Vis X.env.scope x := by first | exact Or.inl rfl | exact Or.inr (Or.inl rfl)) (hd : (x == ("__debug__" : Str)) = false := by decide +kernel) (hcd : (x == ("__classdict__" : Str)) = false := by decide +kernel) :
    DT X C (.Compare e [.NotIn] [.Name x p] pos) (tInS true i me) := inS_core true or_snotinK he rfl hN hv hd hcd
end
end DD
namespace DD
open PySem PySem.Spec PyProof.Rows L2
/-! ### what the written part says of an exception class -/
def oexB (K : PySem.W.Frag) (Ca : Addr) : Bool := (match K.lookup Ca with
  | some ⟨.type "type", _, .cls cd, sl⟩ => (match cd.mro, sl.toList with
    | .ref C' :: bm, [_, _, _, _, some (.builtin n), _] => C' == Ca && n == "ValueError.__new__" && !cd.hasDel && cd.hasDict && PySem.HandSPX.refsVE bm
    | _, _ => false)
  | _ => false) && (decide (PySem.W.findIn K (.ref Ca) "__setattr__" = some (some (.builtin "object.__setattr__"))) && (decide (PySem.W.subIn K (.ref Ca) (.type "BaseException") = some true) && (decide (PySem.W.typeIn K (.ref Ca) = some (.type "type")) && PySem.W.keepIn K (.ref Ca))))
theorem oexB_ok {K : PySem.W.Frag} {Ca : Addr} (h : oexB K Ca = true) : OexC K Ca := by
  unfold oexB at h
  obtain ⟨q, h⟩ := He.ba h
  obtain ⟨h1, h⟩ := He.ba h
  obtain ⟨h2, h⟩ := He.ba h
  obtain ⟨h3, h4⟩ := He.ba h
  refine ⟨?_, of_decide_eq_true h1, of_decide_eq_true h2, of_decide_eq_true h3, h4⟩
  split at q
  · rename_i dd cd sl ho
    split at q
    · rename_i C' bm k0 k1 k2 k3 n k5 hm hs
      simp only [Bool.and_eq_true, beq_iff_eq, Bool.not_eq_true'] at q
      obtain ⟨⟨⟨⟨rfl, rfl⟩, hdel⟩, hd⟩, hr⟩ := q
      obtain ⟨nm, bs, mro, ns, qn, hdd, sn, sub, ab, col, del⟩ := cd
      dsimp only at hm hdel hd
      subst hm hdel hd
      have hsl : sl = #[k0, k1, k2, k3, some (.builtin "ValueError.__new__"), k5] := by
        obtain ⟨l⟩ := sl
        simp only at hs
        rw [hs]
      subst hsl
      exact ⟨nm, qn, ns, bs, bm, sn, sub, ab, col, dd, k0, k1, k2, k3, k5, ho, hr⟩
    · cases q
  · cases q
def xcB (K : PySem.W.Frag) (x : Str) (fl : List Str) : Bool := oexB K (He.ga K x) && (xfB K (He.ga K x) && (decide (PySem.W.exmOne K (.ref (He.ga K x)) (.ref (He.ga K x)) = some true) && (fl.all (fun f => decide (PySem.W.findIn K (.ref (He.ga K x)) f = some none)) &&
  (decide (PySem.W.findIn K (.ref (He.ga K x)) "__init__" = some (some (.ref (He.fAd K (x, some "__init__"))))) && decide (PySem.W.typeIn K (.ref (He.fAd K (x, some "__init__"))) = some (.type "function"))))))
structure XcF (K : PySem.W.Frag) (x : Str) (fl : List Str) : Prop where
  oex : OexC K (He.ga K x)
  xfc : XfC K (He.ga K x)
  exm : PySem.W.exmOne K (.ref (He.ga K x)) (.ref (He.ga K x)) = some true
  nof : ∀ f ∈ fl, PySem.W.findIn K (.ref (He.ga K x)) f = some none
  ini : PySem.W.findIn K (.ref (He.ga K x)) "__init__" = some (some (.ref (He.fAd K (x, some "__init__"))))
  fn : PySem.W.typeIn K (.ref (He.fAd K (x, some "__init__"))) = some (.type "function")
theorem xcB_ok {K : PySem.W.Frag} {x : Str} {fl : List Str} (h : xcB K x fl = true) : XcF K x fl := by
  unfold xcB at h
  obtain ⟨h1, h⟩ := He.ba h
  obtain ⟨h2, h⟩ := He.ba h
  obtain ⟨h3, h⟩ := He.ba h
  obtain ⟨h4, h⟩ := He.ba h
  obtain ⟨h5, h6⟩ := He.ba h
  exact ⟨oexB_ok h1, xfB_ok h2, of_decide_eq_true h3, fun f hf => of_decide_eq_true (List.all_eq_true.mp h4 f hf), of_decide_eq_true h5, of_decide_eq_true h6⟩
theorem XcF.no {K : PySem.W.Frag} {x : Str} {fl : List Str} (h : XcF K x fl) (i : Nat) {f : Str} (e : fl[i]? = some f := by rfl) : PySem.W.findIn K (.ref (He.ga K x)) f = some none := h.nof f (List.mem_of_getElem? e)
theorem XcF.xf {P : Program} {w : World} {K : PySem.W.Frag} {mg : Str → Option Value} {x : Str} {fl : List Str} (h : XcF K x fl) (hm : mg x = some (.ref (He.ga K x))) : XfD ⟨P, w, K, mg⟩ x fl := ⟨_, hm, h.xfc, h.exm, h.nof⟩
theorem pv {X : Cx} {x : Str} {p : Pos} (i : Nat) (hi : X.N[i]? = some x := by rfl) (hx : Vis X.env.scope x := by first | exact Or.inl rfl | exact Or.inr (Or.inl rfl)) (h1 : (x == ("__debug__" : Str)) = false := by decide +kernel) (h2 : (x == ("__classdict__" : Str)) = false := by decide +kernel) : PE X (.Name x p) (tVar i) := pe_var hi hx h1 h2

/-! ### the script, the law -/
def KLst (K : PySem.W.Frag) (a : Addr) (xs : List V) : Prop :=
  ∃ (o : Obj) (its : Array Value) (n : Nat), K.lookup a = some o ∧ o.cls = .type "list" ∧ o.dict = none ∧ o.data = .seq its n ∧ its.size ≤ sizeLine ∧ Vals xs its.toList
def scrW (K : PySem.W.Frag) (a : Addr) (ns : List Int) : Wd Unit where
  foot := fun b => b = a ∧ ¬ KLst K a (ns.map V.int)
  rel := fun _ H => SqL K H a (ns.map V.int)
  loc := fun {s H H'} h e => by
    by_cases k : KLst K a (ns.map V.int)
    · exact .inr k
    · rcases h with h | h
      · refine .inl ?_
        have q := e a ⟨rfl, k⟩
        rcases h with h | ⟨o, h⟩
        · exact .inl (q.trans h)
        · exact .inr ⟨o, q.trans h⟩
      · exact (k h).elim
  here := fun {s H b} h f z => by
    obtain ⟨rfl, k⟩ := f
    rcases h with h | h
    · rcases h with h | ⟨o, h⟩ <;> (rw [z] at h; cases h)
    · exact k h
  flat := fun {s H b ob} h f z => by
    obtain ⟨rfl, k⟩ := f
    rcases h with h | h
    · rcases h with h | ⟨o, h⟩ <;> (rw [z] at h; cases h; rfl)
    · exact (k h).elim
section
variable {K : PySem.W.Frag} {a : Addr} {ns : List Int} {X : Cx} {C : Dc (scrW X.K a ns)} {al : List Nat} {e : Expr} {lo hi : Option Expr} {m : En Unit D} {pos p2 : Pos}
def eCutS (a : Addr) (ns : List Int) (m : En Unit D) (ml mh : EnO Unit) : En Unit D := fun env => M.bind (m env) fun d => M.bind (ml env) fun lo => M.bind (mh env) fun hi => match d with
  | .opq v => if v = .ref a then M.ret (.lst (cutD (ns.map .int) lo hi)) else M.fail
  | _ => M.fail
theorem reps_intmap {K : PySem.W.Frag} {W : Set'} {H : Hp} : ∀ ns : List Int, Reps K W H (ns.map .int) (ns.map V.int)
  | [] => .nil
  | n :: r => .cons (by simp only [Rep]) (reps_intmap r)
theorem de_sliceS {ml mh : EnO Unit} (he : DE X C e al m) (hl : DO X C lo ml) (hh : DO X C hi mh) : DE X C (.Subscript e (.Slice lo hi none p2) pos) [] (eCutS a ns m ml mh) := by
  refine ⟨PE_imp (pe_slice sl_list he.run hl.run hh.run) fun σ H Q ⟨env, s, R, h⟩ => ?_⟩
  unfold eCutS at h
  refine ⟨env, s, R, bindE R famE h fun d s1 x H1 R1 m1 q1 h1 => ⟨env, s1, R1, bindO R1 famE h1 fun l s2 H2 R2 m2 h2 => ⟨env, s2, R2, bindO R2 famE h2 fun u s3 H3 R3 m3 h3 => ?_⟩⟩⟩
  cases d with
  | opq w =>
    simp only [Rep] at q1
    subst q1
    dsimp only at h3
    by_cases e0 : x = .ref a
    · subst e0
      rw [if_pos rfl] at h3
      refine ⟨a, _, rfl, R3.rel, fun p hp => ?_⟩
      obtain ⟨m4, r4⟩ := (scrW X.K a ns).laid (o := .lst (cutV (ns.map V.int) l u)) R3.rel hp
      refine h3 _ _ m4 r4 ?_
      simp only [Rep]
      exact ⟨p, _, rfl, ⟨upd_same, R3.new hp⟩, reps_cut (reps_intmap ns) l u⟩
    · rw [if_neg e0] at h3
      exact False.elim h3
  | _ => exact False.elim h3
end
def spLaw (K : PySem.W.Frag) : Sp := fun vs H Q _ => ∃ (a : Addr) (ns : List Int), vs = [.ref a] ∧ SqL K H a (ns.map V.int) ∧ ns.length ≤ 63 ∧ ∀ H', Q (.bl true) H'
/-- what the law's text comes to: the jar is made, the rest says True -/
def LawD (jar : Addr → List Int → List D → M Unit D) (k : Nat) (m : Addr → Addr → En JS Fl) : Prop := ∀ (a : Addr) (ns : List Int), ns.length ≤ 63 → ∃ cells : List Int, jar a ns [.opq (.ref a)] () = .ok (.lst [.int 0, .lst (cells.map .int)]) () ∧
  ∀ A0 A1 : Addr, A0 ≠ A1 → ∃ s', m A0 A1 ([.no, .fz (.opq (.ref A0))] ++ List.replicate (k - 2) .no) ⟨0, cells⟩ = .ok (.rt (.bl true)) s'
theorem reps_ints_of {K : PySem.W.Frag} {W : Set'} {H : Hp} : ∀ {ns : List Int} {vs : List V}, Reps K W H (ns.map .int) vs → vs = ns.map V.int
  | [], vs, h => by simpa only [List.map_nil, Reps] using h
  | n :: r, vs, h => by
    simp only [List.map_cons, Reps, Rep] at h
    obtain ⟨v, u, rfl, rfl, h⟩ := h
    rw [reps_ints_of h]
    rfl
theorem law_of {P : Program} {w : World} {K : PySem.W.Frag} {mg : Str → Option Value} {base : Heap} {params : Arguments} {rest : List Stmt} {scope : Scope} {f : Addr} {fd : FuncData} {N : List Str} {k lv lvj : Nat} {p1 p2 p3 p4 p5 : Pos} {m : Addr → Addr → En JS Fl} {jar : Addr → List Int → List D → M Unit D}
    (F : FunD K "law" "law" params (.Assign [.Name "jar" p1] (.Call (.Name "_law_jar" p2) [.Name "script" p3] [] p4) p5 :: rest) scope [] [] f fd) (Sc : FnScope N ["script"] scope) (hk : N.length = k)
    (hj : ∀ a ns, FnD ⟨P, w, K, mg⟩ base lvj (scrW K a ns) "_law_jar" 1 (jar a ns)) (hd : LawD jar k m)
    (hrest : ∀ (cdv : Value) (A : Around) (outer : List Env) (s : Shared) (H : Hp) (E : XK) (A0 A1 : Addr) (C : Dc (jarW A0 A1)), CF lv (cxOf CX0 P w K mg base N "law" scope f cdv A outer s H E) C → DSs (cxOf CX0 P w K mg base N "law" scope f cdv A outer s H E) C rest (m A0 A1))
    (le : lvj ≤ lv := by decide) (h0 : N[0]? = some ("script" : Str) := by rfl) (h1 : N[1]? = some ("jar" : Str) := by rfl)
    (hv : Loc scope "script" := by first | exact .inl rfl | exact .inr rfl) (hl1 : Loc scope "jar" := by first | exact .inl rfl | exact .inr rfl)
    (hjg : scope.names.lookup ("_law_jar" : Str) = some .globalImplicit := by rfl) : FnOk P w K mg base CX0 (lv + 1) f fd ["script"] (spLaw K) := by
  refine F.ok Sc (fun vs H Q E h => ?_) (fun cdv A outer s H vs Q E hr h => ?_)
  · obtain ⟨a, ns, rfl, _⟩ := h
    rfl
  · obtain ⟨a, ns, rfl, hS, hl, hq⟩ := h
    obtain ⟨fj, fdj, psj, m1, m2, m3, m4⟩ := (hj a ns).ex
    refine ⟨tSeq (tAsg (tCall (spD ⟨P, w, K, mg⟩ (scrW K a ns) 1 (jar a ns)) [] E00 (tCons (tVar 0) tNil)) (gName 1)) (fun Dn σ H => ∃ (A0 A1 : Addr) (C : Dc (jarW A0 A1)), C.E = E00 ∧ lS ⟨P, w, K, mg⟩ C (m A0 A1) Dn σ H), ?_, ?_⟩
    · refine pss_cons (ps_set (i := 1) Sc.nd h1 hl1 (pe_call (CX := L2.CX P w) (X := cxOf CX0 P w K mg base N "law" scope f cdv A outer s H E) (k := lvj) (E := E00) m3 (hr.mono le) hjg m1 m2 m4 .nil (fun pins σ H s e s' I c => by obtain ⟨_, _, _, _, _, _, _, _, _, _, _, _, q⟩ := c; exact False.elim q) (pa_cons (pe_var h0 (hv.elim .inl fun z => .inr (.inl z)) (by decide +kernel) (by decide +kernel)) pa_nil)) (by rfl) (.inl rfl)) ⟨fun pins s2 σ H2 Dn I ⟨A0, A1, C, he, q⟩ => ?_⟩
      · have cf : CF lv (cxOf CX0 P w K mg base N "law" scope f cdv A outer s H E) C := ⟨rfl, Sc.nd, hr, fun u s' x => by
          obtain ⟨_, _, _, _, _, _, _, _, _, _, _, _, _, _, _, _, z⟩ := x
          rw [he] at z
          exact False.elim z, passes_of rfl⟩
        exact (hrest cdv A outer s H E A0 A1 C cf).run.run pins s2 σ H2 Dn I q
    · obtain ⟨cells, hjar, hm⟩ := hd a ns hl
      refine ⟨.ref a, ?_, fun b => H b ≠ none, [.opq (.ref a)], (), fun b fb => (scrW K a ns).here (s := ()) hS fb, fun b z => z, hS, .cons (by simp only [Rep]) .nil, rfl, ?_⟩
      · rfl
      · rw [hjar]
        intro v H' mv rl rp
        simp only [Rep] at rp
        obtain ⟨A0, xs, rfl, ⟨e0, n0⟩, rp⟩ := rp
        simp only [Reps, Rep] at rp
        obtain ⟨_, _, rfl, rfl, _, _, rfl, ⟨A1, ys, rfl, ⟨e1, n1⟩, rp⟩, rfl⟩ := rp
        have := reps_ints_of rp
        subst this
        have ne : A0 ≠ A1 := fun z => by
          subst z
          rw [e0] at e1
          injection e1 with e1
          injection e1 with e1
          cases cells with
          | nil => cases e1
          | cons c r =>
            cases r with
            | nil => cases e1
            | cons c r =>
              simp only [List.map_cons, List.cons.injEq] at e1
              cases e1.2.1
        have rl2 : (jarW A0 A1).rel ⟨0, cells⟩ H' := ⟨e0, e1, ne⟩
        let C : Dc (jarW A0 A1) := ⟨(jarW A0 A1).foot, H', E00, fun a z => z, fun a z => (jarW A0 A1).here rl2 z⟩
        obtain ⟨s', hs'⟩ := hm A0 A1 ne
        have h2 : 2 ≤ N.length := by
          have := (List.getElem?_eq_some_iff.mp h1).1
          omega
        have hlen : (L2.start N [V.ref a]).length = N.length := by
          unfold L2.start
          simp
          omega
        refine ⟨A0, A1, C, rfl, [.no, .fz (.opq (.ref A0))] ++ List.replicate (k - 2) .no, ⟨0, cells⟩, ⟨?_, Mv.refl, rl2, fun i d e => ?_, fun i d e => ?_, fun i j d e' b e => ?_⟩, ?_⟩
        · rw [List.length_set, hlen]
          simp
          omega
        · match i with
          | 0 => cases e
          | 1 =>
            cases e
            refine ⟨.ref A0, List.getElem?_set_self (by rw [hlen]; omega), by simp only [Rep]⟩
          | i + 2 =>
            simp only [List.cons_append, List.nil_append, List.getElem?_cons_succ, List.getElem?_replicate] at e
            split at e <;> cases e
        · match i with
          | 0 => cases e
          | 1 => cases e
          | i + 2 =>
            simp only [List.cons_append, List.nil_append, List.getElem?_cons_succ, List.getElem?_replicate] at e
            split at e <;> cases e
        · match i with
          | 0 => cases e
          | 1 => cases e
          | i + 2 =>
            simp only [List.cons_append, List.nil_append, List.getElem?_cons_succ, List.getElem?_replicate] at e
            split at e <;> cases e
        · rw [hs']
          intro v H2 m2 r2 rp2
          simp only [Rep] at rp2
          subst rp2
          exact hq H2
end DD
namespace DD
open PySem PySem.Spec PyProof.Rows L2
section
variable {S : Type} {wd : Wd S} {X : Cx} {C : Dc wd} {al bl : List Nat} {a b e o : Expr} {es : List Expr} {m ma me mo : En S D} {mr : En S (List D)} {pos p cpos apos p1 p2 p3 : Pos} {lv : Nat}
/-! {} -/
def eDct0 : En S D := fun _ => M.ret (.dct [])
theorem df_dct0 : DF X C (.Dict [] [] pos) [] eDct0 := by
  refine ⟨PE_imp pe_dnewK fun σ H Q ⟨env, s, R, h⟩ => fun p hp => ?_⟩
  obtain ⟨m2, r2⟩ := wd.laid (o := .dK []) R.rel hp
  exact h p _ m2 r2 hp ⟨[], upd_same, by simp only [RepKs]⟩
theorem dct0_ns (env : List Sl) (s : S) (d : D) (s' : S) (h : eDct0 env s = .ok d s') : d.isSt = false := by
  cases h
  rfl
/-! list(d) -/
def okK : Key → Bool
  | .inl _ => true
  | .inr x => decide (okS x)
def dList2 : List D → Option D
  | [.lst l] => some (.lst l)
  | [.tup l] => some (.lst l)
  | [.dct l] => if (l.all fun p => okK p.1) = true then some (.lst (l.map fun p => keyD p.1)) else none
  | _ => none
theorem reps_keys {K : PySem.W.Frag} {W : Set'} {H : Hp} : ∀ {l : List (Key × D)} {kvs : List (Key × V)}, RepKs K W H l kvs → (l.all fun p => okK p.1) = true → Reps K W H (l.map fun p => keyD p.1) (kvs.map fun p => kV p.1)
  | [], _, h, _ => by simp only [RepKs] at h; subst h; exact .nil
  | (k, d) :: l, kvs, h, ok => by
    simp only [RepKs] at h
    obtain ⟨v, r, rfl, _, h2⟩ := h
    simp only [List.all_cons, Bool.and_eq_true] at ok
    refine .cons ?_ (reps_keys h2 ok.2)
    cases k with
    | inl i => simp only [keyD, Rep]; rfl
    | inr x => simp only [keyD, Rep]; exact ⟨rfl, of_decide_eq_true ok.1⟩
theorem call_list2 (hc : X.calm = true) : CallR X (.type "list") (fun xs H Q => (∃ p ys, xs = [.ref p] ∧ (SqL X.K H p ys ∨ SqT X.K H p ys) ∧ ∀ l, H l = none → Q (.ref l) (upd H l (.lst ys))) ∨ rListD xs H Q) := call_list_of.or (call_list_dK hc)
theorem vnf_list2 : VNF X.prog X.w X.K X.mg wd (fun xs H Q => (∃ p ys, xs = [.ref p] ∧ (SqL X.K H p ys ∨ SqT X.K H p ys) ∧ ∀ l, H l = none → Q (.ref l) (upd H l (.lst ys))) ∨ rListD xs H Q) dList2 := by
  intro W H s xs ds z Q r hW hf h1 h k
  unfold dList2 at h
  split at h
  · rename_i l
    exact .inl (vnf_list W H s xs _ z Q r hW hf h1 (show dList [.lst l] = some z from h) k)
  · rename_i l
    exact .inl (vnf_list W H s xs _ z Q r hW hf h1 (show dList [.tup l] = some z from h) k)
  · rename_i l
    obtain ⟨c, rfl⟩ := ite_some h
    obtain ⟨v, rfl, hv⟩ := reps1 h1
    simp only [Rep] at hv
    obtain ⟨p, kvs, rfl, ⟨hp, _⟩, rk⟩ := hv
    refine .inr ⟨p, kvs, rfl, hp, fun q hq => ?_⟩
    obtain ⟨m1, r1, m2⟩ := Wd.laidX wd (o := .lst (kvs.map fun kv => kV kv.1)) r hq hf
    exact k q _ m1 r1 hq ⟨_, upd_same, (reps_keys rk c).mv m2⟩
  · cases h
theorem list2_ns {mr : En S (List D)} (env : List Sl) (s : S) (d : D) (s' : S) (h : eCB dList2 mr env s = .ok d s') : d.isSt = false := by
  obtain ⟨ds, s1, _, h⟩ := bind_ok h
  cases e : dList2 ds with
  | none => rw [e] at h; cases h
  | some z =>
    rw [e] at h
    cases h
    unfold dList2 at e
    split at e
    · cases e; rfl
    · cases e; rfl
    · obtain ⟨_, rfl⟩ := ite_some e; rfl
    · cases e
/-! xs[::-1] -/
def dRev : D → Option D
  | .lst l => some (.lst l.reverse)
  | _ => none
theorem de_rev {k : Nat} (he : DE X C e al m) : DE X C (.Subscript e (.Slice none none (some (.UnaryOp .USub (.Constant (.int 1) k p1) p2)) p3) pos) al (eOp1 dRev m) := by
  refine ⟨PE_imp (pe_revL he.run) fun σ H Q ⟨env, s, R, h⟩ => ?_⟩
  unfold eOp1 at h
  refine ⟨env, s, R, bindE R famE h fun d s1 x H1 R1 m1 q1 h1 => ?_⟩
  cases d with
  | lst l =>
    simp only [Rep] at q1
    obtain ⟨a, xs, rfl, t, r⟩ := q1
    refine ⟨a, xs, rfl, t.seq, fun p hp => ?_⟩
    obtain ⟨m4, r4⟩ := wd.laid (o := .lst xs.reverse) R1.rel hp
    refine h1 _ _ m4 r4 ?_
    simp only [Rep]
    exact ⟨p, _, rfl, ⟨upd_same, R1.new hp⟩, r.reverse.mv (Ext.ow R1 m4)⟩
  | _ => exact False.elim h1
/-! l.index(x), t.index(x) -/
def rIndexTD (K : PySem.W.Frag) : V → List V → Hp → VK → Prop := fun x xs H Q => ∃ (a : Addr) (y : V) (d : PyData) (ds : List PyData) (j : Nat) (z : PyData), x = V.ref a ∧ xs = [y] ∧ Dp K H (V.ref a) (.tuple ds) ∧ Dp K H y d ∧
  SeqAt.shaped (.tuple ds) = true ∧ SeqAt.shaped d = true ∧ ds[j]? = some z ∧ PyData.eqv z d = true ∧ (∀ (m : Nat) (z' : PyData), m < j → ds[m]? = some z' → PyData.eqv z' d = false) ∧ Q (.int (j : Nat)) H
theorem first_true : ∀ (l : List Bool) (j : Nat), l[j]? = some true → (∀ m, m < j → l[m]? = some false) → l.idxOf true = j
  | [], j, h, _ => by cases h
  | b :: l, 0, h, _ => by
    cases h
    simp
  | b :: l, j + 1, h, hm => by
    have := hm 0 (Nat.succ_pos _)
    cases this
    rw [List.idxOf_cons]
    simp only [Bool.false_beq, Bool.not_true, cond_false]
    rw [first_true l j (by simpa using h) fun m hmj => by simpa using hm (m + 1) (Nat.succ_lt_succ hmj)]
theorem mt_indexTD (hu : X.A.units + 65 < cLine) : MtR X "tuple.index" (rIndexTD X.K) := by
  intro pins s σ H x xs v us Q I rx rxs h
  obtain ⟨a, y, d, ds, j, z, rfl, rfl, hl, hy, sl, sd, hz, hzj, hno, q⟩ := h
  cases rx
  cases rxs with
  | cons ry rt =>
    rename_i uy ut
    cases rt
    obtain ⟨bs, r1⟩ := Dp.reads I d y uy hy ry
    have hxs : PyData.canLayAll0 ds = true := SeqAt.canLay_of_shaped sl
    have hroom : X.A.units + 1 + min (PyData.depthAll ds) d.depth < cLine := room_in_shaped sd hu
    cases hl with
    | tup hs ha =>
      obtain ⟨its, rv, pl, hlen⟩ := I.tuple hs
      obtain ⟨as, h4⟩ := Dp.readsAll I ds _ its ha rv
      have hn : its.length = ds.length := SeqAt.ReadsAll.length ds its as h4
      have hmap : its.map (SeqAt.readOf s.heap) = ds := SeqAt.readsAll_map ds its as hxs h4
      have key := SeqAt.items_eqAt (A := X.A) (vs := its.toArray) (show ReadsAll s.heap its.toArray.toList ds as from h4) r1 hxs (SeqAt.canLay_of_shaped sd) hroom
      have idx := first_true (ds.map fun z => PyData.eqv z d) j (by rw [List.getElem?_map, hz]; exact congrArg some hzj) (fun m hm => by
        have hmd : m < ds.length := Nat.lt_trans hm (List.getElem?_eq_some_iff.mp hz).1
        rw [List.getElem?_map, List.getElem?_eq_getElem hmd]
        exact congrArg some (hno m _ hm (List.getElem?_eq_getElem hmd)))
      refine SeqAt.call_tuple_index (vs := its) (ks := ds.map fun z => PyData.eqv z d) (k := true) pl ⟨by rw [List.length_map]; exact hn, fun i h1 h2 => ?_⟩ ?_ ?_
      · have e1 : decide ((ds.map fun z => PyData.eqv z d)[i] = true) = PyData.eqv (SeqAt.readOf s.heap its[i]) d := by
          rw [List.getElem_map]
          have : SeqAt.readOf s.heap its[i] = ds[i]'(by rw [List.length_map] at h2; exact h2) := by
            have e := congrArg (fun l => l[i]?) hmap
            rw [List.getElem?_map, List.getElem?_eq_getElem h1] at e
            rw [List.getElem?_eq_getElem (by rw [List.length_map] at h2; exact h2)] at e
            exact Option.some.inj e
          rw [this]
          cases PyData.eqv ds[i] d <;> rfl
        rw [e1]
        exact key _ (by simp)
      · exact List.mem_map.mpr ⟨z, List.mem_of_getElem? hz, hzj⟩
      · rw [idx]
        exact ⟨.int (j : Nat), H, I.tok _, ⟨_, rfl⟩, q⟩
/-- the first place of an equal one -/
def dIdx (d e : D) : Option D := match d with
  | .lst l => if d.cmp && e.cmp then (l.findIdx? fun z => z.eqv e).map fun j => .int (j : Nat) else none
  | .tup l => if d.cmp && e.cmp then (l.findIdx? fun z => z.eqv e).map fun j => .int (j : Nat) else none
  | _ => none
theorem pys_get : ∀ (l : List D) (j : Nat), (pys l)[j]? = (l[j]?).map D.py
  | [], j => by simp [pys]
  | d :: l, 0 => by simp [pys]
  | d :: l, j + 1 => by simp only [pys, List.getElem?_cons_succ]; exact pys_get l j
theorem idx_facts {l : List D} {e : D} {j : Nat} (hl : arePy l = true) (he : e.isPy = true) (h : l.findIdx? (fun z => z.eqv e) = some j) :
    ∃ z, (pys l)[j]? = some z ∧ PyData.eqv z e.py = true ∧ ∀ (m : Nat) (z' : PyData), m < j → (pys l)[m]? = some z' → PyData.eqv z' e.py = false := by
  obtain ⟨hj, h1, h2⟩ := List.findIdx?_eq_some_iff_getElem.mp h
  have py : ∀ (m : Nat) (hm : m < l.length), l[m].isPy = true := by
    have all : ∀ (l : List D), arePy l = true → ∀ d ∈ l, d.isPy = true := by
      intro l
      induction l with
      | nil => intro _ d hd; cases hd
      | cons x l ih =>
        intro h d hd
        simp only [arePy, Bool.and_eq_true] at h
        rcases List.mem_cons.mp hd with rfl | hd
        · exact h.1
        · exact ih h.2 d hd
    exact fun m hm => all l hl _ (List.getElem_mem hm)
  refine ⟨l[j].py, by rw [pys_get, List.getElem?_eq_getElem hj]; rfl, by rw [eqv_py _ _ (py j hj) he]; exact h1, fun m z' hm hz => ?_⟩
  rw [pys_get, List.getElem?_eq_getElem (by omega)] at hz
  cases hz
  rw [eqv_py _ _ (py m (by omega)) he]
  simpa using h2 m hm
theorem tag_tupT {K : PySem.W.Frag} {H : Hp} {a : Addr} {xs : List V} (h : TupAt K H a xs) : SqT K H a xs := h.seq
def kIdxL (m : En S D) (env : List Sl) (d : D) : M S D := match d with
  | .lst l => M.bind (m env) fun e => M.ofO (dIdx (.lst l) e)
  | _ => M.fail
def kIdxT (m : En S D) (env : List Sl) (d : D) : M S D := match d with
  | .tup l => M.bind (m env) fun e => M.ofO (dIdx (.tup l) e)
  | _ => M.fail
def eIdxL (mo m : En S D) : En S D := fun env => M.bind (mo env) (kIdxL m env)
def eIdxT (mo m : En S D) : En S D := fun env => M.bind (mo env) (kIdxT m env)
theorem cmp_py {d : D} (h : d.cmp = true) : d.isPy = true := by
  unfold D.cmp at h
  rw [Bool.and_eq_true] at h
  exact h.1
/-- a method of a tuple -/
def tTM (K : PySem.W.Frag) (r : V → List V → Hp → VK → Prop) (to : TE) (t : TA) : TE := fun σ H Q => to σ H fun x G => (∃ c ys, x = .ref c ∧ TupAt K G c ys) ∧ t σ G fun zs G2 => r x zs G2 Q
theorem no_dict {pins : List (Addr × Obj)} {σ : Sg} {H : Hp} {s : Shared} {c : Addr} {ys : List V} (I : Inv X pins σ H s) (h : TupAt X.K H c ys) : ∃ ob, s.heap.get? c = some ob ∧ ob.cls = .type "tuple" ∧ ob.dict = none := by
  rcases h with ⟨o, e, d⟩ | ⟨o, its, n, e, hc, d, _⟩
  · obtain ⟨g, _, ws, _, ob, g2, hc, _⟩ := I.hok c _ e
    rw [g] at g2
    cases g2
    exact ⟨o, g, hc, d⟩
  · exact ⟨o, I.kIn _ _ e, hc, d⟩
section
variable (hu : X.A.units + 65 < cLine)
include hu
theorem de_indexL (ho : DE X C o al mo) (he : DE X C e bl m) (hbase : attributeBase o "index" X.env (eval o X.env) = eval o X.env := by rfl)
    (hfew : ((backTo cpos (starEach [e] X.env)).all (fun x => !x.1) && (backToKw cpos (keywordEach [] X.env)).all (fun x => x.1.isSome) && decide ([e].length + ([] : List Keyword).length + (if ([] : List Keyword).isEmpty then 0 else 1) < 30)) = true := by rfl)
    (hline : (apos.endLine == cpos.line) = true := by rfl) (hs : starEach [e] X.env = (false, eval e X.env) :: starEach [] X.env := by rfl) (hplain : (backTo cpos (starEach [] X.env)).any (·.1) = false := by rfl) :
    DE X C (.Call (.Attribute o "index" apos) [e] [] cpos) (al ++ bl) (eIdxL mo m) := by
  refine ⟨PE_imp (pe_bm PySem.F.plainAttrs_list PySem.F.slot_list_index PySem.F.type_list_index (mt_indexD hu) ho.run (pa_cons he.run pa_nil hs) hbase hfew hline hs hplain) fun σ H Q ⟨env, s, R, h⟩ => ?_⟩
  unfold eIdxL at h
  refine ⟨env, s, R, bindE R famE h fun d s1 x H1 R1 m1 q1 h1 => ?_⟩
  cases d with
  | lst l =>
    simp only [Rep] at q1
    obtain ⟨a, xs, rfl, t, r1⟩ := q1
    refine ⟨.inl ⟨rfl, xs, t.seq⟩, env, s1, R1, bindE R1 famE h1 fun e s2 y H2 R2 m2 q2 h2 => ?_⟩
    cases ed : dIdx (.lst l) e with
    | none => rw [ed] at h2; exact False.elim h2
    | some z =>
      rw [ed] at h2
      unfold dIdx at ed
      dsimp only at ed
      split at ed
      · rename_i c
        rw [Bool.and_eq_true] at c
        obtain ⟨j, hj, rfl⟩ := Option.map_eq_some_iff.mp ed
        have rl : Rep X.K (Ow C env σ al) H2 (.lst l) (.ref a) := by
          simp only [Rep]
          exact ⟨a, xs, rfl, t.mv (Ext.ow R1 m2), r1.mv (Ext.ow R1 m2)⟩
        obtain ⟨d1, d2⟩ := rep_shaped c.1 rl
        obtain ⟨d3, d4⟩ := rep_shaped c.2 q2
        obtain ⟨z, z1, z2, z3⟩ := idx_facts (by simpa only [D.isPy] using cmp_py c.1) (cmp_py c.2) hj
        exact ⟨a, y, e.py, pys l, j, z, rfl, rfl, by simpa only [D.py] using d1, d3, by simpa only [D.py] using d2, d4, z1, z2, z3, h2 _ H2 Mv.refl R2.rel (by simp only [Rep])⟩
      · cases ed
  | _ => exact False.elim h1
theorem pe_tm_index {to : TE} {t : TA} (ho : PE X o to) (ha : PA X (e :: es) t) (hbase : attributeBase o "index" X.env (eval o X.env) = eval o X.env := by rfl)
    (hfew : ((backTo cpos (starEach (e :: es) X.env)).all (fun x => !x.1) && (backToKw cpos (keywordEach [] X.env)).all (fun x => x.1.isSome) && decide ((e :: es).length + ([] : List Keyword).length + (if ([] : List Keyword).isEmpty then 0 else 1) < 30)) = true := by rfl)
    (hline : (apos.endLine == cpos.line) = true := by rfl) (hs : starEach (e :: es) X.env = (false, eval e X.env) :: starEach es X.env := by rfl) (hplain : (backTo cpos (starEach es X.env)).any (·.1) = false := by rfl) :
    PE X (.Call (.Attribute o "index" apos) (e :: es) [] cpos) (tTM X.K (rIndexTD X.K) to t) := by
  refine ⟨fun pins s σ H Q I h => wpAny_Call_method_late hbase hfew hline rfl (thn (ho.run pins s σ H _ I h) fun v s1 hh => ?_)⟩
  obtain ⟨x, G, J, rx, ⟨c, ys, rfl, tt⟩, q⟩ := hh
  obtain ⟨ob, g, hc, d⟩ := no_dict J tt
  cases rx
  refine ⟨"tuple", "tuple.index", PySem.F.plainAttrs_tuple, PySem.F.slot_tuple_index, PySem.F.type_tuple_index, ⟨ob, g, hc⟩, fun b eb => by cases eb; exact ⟨ob, g, d⟩, ?_⟩
  have hA := ha.run cpos pins s1 σ G _ J q
  rw [hs] at hA ⊢
  refine Calls.callWith_builtin (by show (false || (backTo cpos (starEach es X.env)).any (·.1)) = false; rw [hplain]; rfl) (Calls.evalArgs_plain ?_)
  exact thn hA fun us s2 ⟨zs, G2, J2, rz, q2⟩ => mt_indexTD hu pins s2 σ G2 (.ref c) zs (.ref c) us Q J2 rfl rz q2
theorem de_indexT (ho : DE X C o al mo) (he : DE X C e bl m) (hbase : attributeBase o "index" X.env (eval o X.env) = eval o X.env := by rfl)
    (hfew : ((backTo cpos (starEach [e] X.env)).all (fun x => !x.1) && (backToKw cpos (keywordEach [] X.env)).all (fun x => x.1.isSome) && decide ([e].length + ([] : List Keyword).length + (if ([] : List Keyword).isEmpty then 0 else 1) < 30)) = true := by rfl)
    (hline : (apos.endLine == cpos.line) = true := by rfl) (hs : starEach [e] X.env = (false, eval e X.env) :: starEach [] X.env := by rfl) (hplain : (backTo cpos (starEach [] X.env)).any (·.1) = false := by rfl) :
    DE X C (.Call (.Attribute o "index" apos) [e] [] cpos) (al ++ bl) (eIdxT mo m) := by
  refine ⟨PE_imp (pe_tm_index hu ho.run (pa_cons he.run pa_nil hs) hbase hfew hline hs hplain) fun σ H Q ⟨env, s, R, h⟩ => ?_⟩
  unfold eIdxT at h
  refine ⟨env, s, R, bindE R famE h fun d s1 x H1 R1 m1 q1 h1 => ?_⟩
  cases d with
  | tup l =>
    simp only [Rep] at q1
    obtain ⟨a, xs, rfl, t, r1⟩ := q1
    refine ⟨⟨a, xs, rfl, t⟩, env, s1, R1, bindE R1 famE h1 fun e s2 y H2 R2 m2 q2 h2 => ?_⟩
    cases ed : dIdx (.tup l) e with
    | none => rw [ed] at h2; exact False.elim h2
    | some z =>
      rw [ed] at h2
      unfold dIdx at ed
      dsimp only at ed
      split at ed
      · rename_i c
        rw [Bool.and_eq_true] at c
        obtain ⟨j, hj, rfl⟩ := Option.map_eq_some_iff.mp ed
        have rl : Rep X.K (Ow C env σ al) H2 (.tup l) (.ref a) := by
          simp only [Rep]
          exact ⟨a, xs, rfl, t.mv (Ext.ow (al := al) R1 m2), r1.mv (Ext.ow R1 m2)⟩
        obtain ⟨d1, d2⟩ := rep_shaped c.1 rl
        obtain ⟨d3, d4⟩ := rep_shaped c.2 q2
        obtain ⟨z, z1, z2, z3⟩ := idx_facts (by simpa only [D.isPy] using cmp_py c.1) (cmp_py c.2) hj
        exact ⟨a, y, e.py, pys l, j, z, rfl, rfl, by simpa only [D.py] using d1, d3, by simpa only [D.py] using d2, d4, z1, z2, z3, h2 _ H2 Mv.refl R2.rel (by simp only [Rep])⟩
      · cases ed
  | _ => exact False.elim h1
end
end
end DD
namespace DD
open PySem PySem.Spec PyProof.Rows L2
/-! ### several clauses, a name each -/
/-- the ends of a suite behind which slot i is empty -/
def goneE (Dn : Ends) (i : Nat) : Ends := { nx := fun τ G => Dn.nx (τ.set i none) G, rt := Dn.rt, bk := fun τ G => Dn.bk (τ.set i none) G, ct := fun τ G => Dn.ct (τ.set i none) G }
abbrev ClN := Value × Nat × (Addr → Value → Option Addr → TS)
def wNames (K : PySem.W.Frag) (W0 : WX) (Dn : Ends) : List ClN → WX
  | [] => W0
  | q :: l => fun cls d σ H => ∃ yes, PySem.W.exmOne K cls q.1 = some yes ∧ (yes = true → ∀ a, H a = none → q.2.2 a cls d (goneE Dn q.2.1) (σ.set q.2.1 (some (.ref a))) H) ∧ (yes = false → wNames K W0 Dn l cls d σ H)
inductive ClsN (X : Cx) : List ExceptHandler → List ClN → Prop
  | nil : ClsN X [] []
  | cons {x n : Str} {c : Value} {i : Nat} {ts : Addr → Value → Option Addr → TS} {st : Stmt} {sts : List Stmt} {np hp : Pos} {hs : List ExceptHandler} {l : List ClN} (hc : Names X x c) (hi : X.N[i]? = some n) (hn : X.env.kindOf n = some .local)
      (run : ∀ (a : Addr) (o : Obj) (cls : Value) (d : Option Addr) (pn : List (Addr × Obj)), Zc cls d o → (∃ vs, o.data = .fields vs) → PSs (X.suite a ((a, o) :: pn)) (st :: sts) (ts a cls d)) (r : ClsN X hs l) :
      ClsN X (.ExceptHandler (some (.Name x np)) (some n) (st :: sts) hp :: hs) ((c, i, ts) :: l)
section
variable {X : Cx} {body : List Stmt} {h0 : ExceptHandler} {hds : List ExceptHandler} {l : List ClN} {pos : Pos} {tb : WX → TS} {W0 : WX}
theorem ps_try_names (hs : X.stack = X.env :: X.outer) (hf : X.env.frame = some X.env.locals) (nd : X.N.Nodup) (tk : Takes X W0)
    (hb : ∀ (W : WX) (pn : List (Addr × Obj)) (xe : Value → Shared → Prop), Takes (X.tr pn xe) W → PassesOwn (model X.prog X.w) X.A X.env xe → PSs (X.tr pn xe) body (tb W))
    (hh : ClsN X (h0 :: hds) l) : PS X (.Try body (h0 :: hds) [] [] pos) (fun Dn σ H => tb (wNames X.K W0 Dn l) Dn σ H) := by
  refine ⟨fun pins s σ H Dn I want => wpAny_Try_except ?_⟩
  have okI := I.ok
  have frames : X.A.frames = some (X.env :: X.outer) := by rw [okI.frames, hs]
  refine wpAny_mono ((hb (wNames X.K W0 Dn l) (X.pn ++ pins) (fun e u1 => wpAny (model X.prog X.w) X.A (noteFrame e X.env) (fun _ u2 => wpAny (model X.prog X.w) X.A (setFlight e none) (fun _ u3 => wpAny (model X.prog X.w) X.A (handleBy e X.env (h0 :: hds)) (SP X pins Dn) X.xe u3) X.xe u2) X.xe u1) (fun v t caught => ?_) PassesOwn.looking).run [] s σ H Dn (I.toTry _) want)
    (fun f t done => ?_) (fun _ _ z => z)
  · obtain ⟨a, B, sI, pins1, σ1, H1, cls, d, rfl, It, nb, up, sky, na, os, ag, w⟩ := caught
    have J0 : Inv X pins σ1 H1 sI := It.ofTry okI
    have sky1 : Sky B (X.env :: X.outer) a (Zc cls d) X.env.locals t.heap := hs ▸ sky
    show wpAny (model X.prog X.w) X.A (noteFrame (.ref a) X.env) _ _ _
    refine Sky.land Zc.steady frames hf sky1 fun h3 fl upl => ?_
    have J1 : Inv X pins σ1 H1 { t with heap := h3 } := J0.landed nb fl.1 (up.trans upl) os ag
    obtain ⟨o3, vs3, g3, z3, d3⟩ := fl.there
    have off : a ∉ frs (X.env :: X.outer) := fun hm => by
      obtain ⟨_, o', g', no⟩ := fl.2.2.1.mem hm
      rw [g3] at g'
      cases g'
      exact no _ d3
    have offL : a ≠ X.env.locals := fun z => off (List.mem_filterMap.mpr ⟨X.env, List.mem_cons_self, by rw [hf, z]⟩)
    have offF : a ∉ X.fs := fun hm => by
      obtain ⟨y, hy, q⟩ := List.mem_filterMap.mp hm
      exact off (List.mem_filterMap.mpr ⟨y, List.mem_cons_of_mem _ hy, q⟩)
    have Js := J1.suite g3 d3 na offL offF
    suffices all : ∀ {hs2 : List ExceptHandler} {l2 : List ClN}, ClsN X hs2 l2 → wNames X.K W0 Dn l2 cls d σ1 H1 → wpAny (model X.prog X.w) X.A (handleBy (.ref a) X.env hs2) (SP X pins Dn) X.xe { t with heap := h3 } from all hh w
    intro hs2 l2 cl
    induction cl with
    | nil =>
      intro out
      refine wpAny_handleBy_nil ?_
      obtain ⟨_, _, _, o, vs, T, _, _, g, _, dd, q1, _⟩ := id fl
      unfold PySem.passOn
      refine wpAny_bind (wpAny_field g dd q1 ?_)
      rw [if_neg (by simp : ¬ ((Value.ref T == Value.none) = true))]
      have last : wpAny (model X.prog X.w) X.A (setFlight (.ref a) X.env.frame) (fun _ u => wpAny (model X.prog X.w) X.A (throw (.ref a) : Sem Flow) (SP X pins Dn) X.xe u) X.xe { t with heap := h3 } := by
        rw [hf]
        exact HandSPX.setFlight_upZ fl fun h4 q4 up4 => wpAny_throw (tk _ _ ⟨a, B, sI, pins, σ1, H1, cls, d, rfl, J0, nb, (up.trans upl).trans up4, .inr (.inr (by rw [hs]; exact q4)), na, os, ag, out⟩)
      first
        | exact wpAny_bind (wpAny_pure (wpAny_bind last))
        | exact wpAny_bind last
    | @cons x n c i ts st sts np hp hs3 l3 hc hi hn run r ih =>
      intro ⟨yes, ey, hy, hno⟩
      refine wpAny_handleBy_cons (codeAny_handlers_test ?_) (by intro z; cases z)
      have lk : PySem.W.Looks (model X.prog X.w) h3 (typeOf (.ref a)) cls := fun A Q E s k q => wpAny_typeOf_ref (k _ _ g3) (by rw [z3.1]; exact q)
      have ask : ∀ {Q : Value → Shared → Prop} {E : Value → Shared → Prop}, Q c { t with heap := h3 } → wpAny (model X.prog X.w) (X.A.mark (some (.ref a))) (eval (.Name x np) X.env) Q E { t with heap := h3 } := fun {Q E} q => by
        obtain ⟨hg, hdb, hm | ⟨hm, hv, nn⟩⟩ := hc
        · exact ld_glob (X := X.suite a ((a, o3) :: (X.pn ++ pins))) Js hg hm q hdb
        · exact ld_blt (X := X.suite a ((a, o3) :: (X.pn ++ pins))) Js hg hm hv q nn hdb
      refine ask ((PySem.W.exm_one (M := model X.prog X.w) (J1.kIn) lk ey).here ?_)
      cases yes with
      | false => exact ih (hno rfl)
      | true =>
        refine codeAny_handlers_suite_as (HandSPX.lands_againZ fl fun h4 fl4 up4 => ?_)
        have J2 : Inv X pins σ1 H1 { t with heap := h4 } := J0.landed nb fl4.1 ((up.trans upl).trans up4) os ag
        obtain ⟨o4, vs4, g4, z4, d4⟩ := fl4.there
        have Js2 := J2.suite g4 d4 na offL offF
        refine store_ok (X := X.suite a ((a, o4) :: (X.pn ++ pins))) (v := .ref a) Js2 nd hi (.inl hn) rfl (fun s5 J5 => ?_) (.inr hn)
        refine wpAny_mono ((run a o4 cls d (X.pn ++ pins) z4 ⟨_, d4⟩).run [] s5 _ H1 _ J5 (hy rfl a na)) (fun f s6 hsp => ?_) (fun _ _ z => z.elim)
        have away : ∀ {τ : L2.St} {G : Hp} {Q : Shared → Prop}, Inv (X.suite a ((a, o4) :: (X.pn ++ pins))) [] τ G s6 → (∀ s7, Inv X pins (τ.set i none) G s7 → Q s7) → wpAny (model X.prog X.w) X.A (do bindName X.env n .none; unbindBehindTheSuite X.env n hp) (fun _ s7 => Q s7) X.xe s6 :=
          fun {τ G Q} J6 q => gone_ok (J6.unsuite okI) nd hi hn q
        cases f with
        | ret u => obtain ⟨v6, τ, G, J6, rv, q6⟩ := hsp; exact away J6 fun s7 J7 => ⟨_, _, _, J7, rv, q6⟩
        | next => obtain ⟨τ, G, J6, q6⟩ := hsp; exact away J6 fun s7 J7 => ⟨_, _, J7, q6⟩
        | brk => obtain ⟨τ, G, J6, q6⟩ := hsp; exact away J6 fun s7 J7 => ⟨_, _, J7, q6⟩
        | cont => obtain ⟨τ, G, J6, q6⟩ := hsp; exact away J6 fun s7 J7 => ⟨_, _, J7, q6⟩
  · cases f with
    | ret u => obtain ⟨v, τ, G, J6, rv, q⟩ := done; exact ⟨v, τ, G, J6.ofTry okI, rv, q⟩
    | next => obtain ⟨τ, G, J6, q⟩ := done; exact wpAny_execs_nil ⟨τ, G, J6.ofTry okI, q⟩
    | brk => obtain ⟨τ, G, J6, q⟩ := done; exact ⟨τ, G, J6.ofTry okI, q⟩
    | cont => obtain ⟨τ, G, J6, q⟩ := done; exact ⟨τ, G, J6.ofTry okI, q⟩
end
end DD
namespace DD
open PySem PySem.Spec PySem.Calls PyProof.Rows L2
/-! isinstance(e, C) of a caught exception that has fields -/
section
variable {prog : Program} {w : World} {A : Around} {E : Value → Shared → Prop} {s : Shared} {K : PySem.W.Frag} {x D : Addr}
open PySem.W in
theorem excCls (T : ExcC K D) {ox : Obj} {od : Option Obj} {Q : Option Value → Shared → Prop} (kin : K.In s.heap) (I : InstAt s.heap x ox D od) (q : Q (some (.ref D)) { s with toks := s.toks + 1 }) : wpAny (model prog w) A (getAttr? (.ref x) "__class__") Q E s := by
  have bound : findObj K D od "__class__" = some (.bind (.builtin "getset_descriptor.__get__") (.builtin "object.__class__")) := by
    obtain ⟨cd, hc, _⟩ := any_some T.hd
    unfold findObj
    rw [hc, Option.bind_some, T.ha, Option.bind_some]
    simp [T.hn, T.ht]
  cases s with
  | mk hp g d t os =>
  have ty := I.type (M := model prog w)
  have own := looks_findIn (M := model prog w) kin T.hg
  have att := looks_findIn (M := model prog w) kin T.hk
  have got := looks_find (M := model prog w) kin I bound
  have isE : Looks (model prog w) hp (isInstance (.ref x) (.type "BaseException")) true := ty.andThen (looks_subIn kin T.hs)
  have other : (Value.builtin "BaseException.__getattribute__" == Value.builtin "object.__getattribute__") = false := by decide +kernel
  have first_ : (onTheHeap (Value.ref D) && Value.builtin "BaseException.__getattribute__" == Value.builtin "object.__getattribute__") = false := by rw [other]; rfl
  have second_ : (false && onTheHeap (Value.builtin "BaseException.__getattribute__")) = false := rfl
  unfold getAttr? getAttrBy? getAttrBy
  refine wpAny_bind (wpAny_mkText (wpAny_bind (wpAny_attempt (wpAny_holding (wpAny_bind (ty.at (wpAny_bind (own.at ?_))))))))
  show wpAny _ _ (if (onTheHeap (Value.ref D) && Value.builtin "BaseException.__getattribute__" == Value.builtin "object.__getattribute__") = true then _ else _) _ _ _
  rw [first_, if_neg Bool.false_ne_true]
  unfold getAttrByItsOwn hookBefore
  refine wpAny_bind ?_
  rw [if_pos (by rfl : onTheHeap (Value.ref D) = true)]
  refine att.at (wpAny_bind (wpAny_attempt (wpAny_holding ?_)))
  unfold callGetattribute
  rw [second_, if_neg Bool.false_ne_true]
  unfold boundAndCalled
  rw [PySem.F.excAttr_ValueError.ga.bind (.ref x)]
  refine wpAny_bind (wpAny_pure ?_)
  show wpAny _ _ (call (.builtin "BaseException.__getattribute__") [.ref x, .str "__class__" t]) _ _ _
  refine wpAny_call (codeAny_call_builtin PySem.F.excAttr_ValueError.ga.plain PySem.F.entry_bexc_ga (@check_slot (model prog w) _ _ ⟨hp, g, d, t + 1, os⟩ "BaseException.__getattribute__" "BaseException" "__getattribute__" (.ref x) [.str "__class__" t] [] _ (by decide +kernel) (by decide +kernel) isE (PySem.F.args_bexc_ga (.ref x) (.str "__class__" t)) ?_))
  unfold Builtin.«object.__getattribute__»
  refine wpAny_bind (wpAny_of_eq (a := ((Value.ref x : Value), [Value.str "__class__" t])) (by first | rfl | (simp only [slotArgs]; rfl)) (wpAny_bind (wpAny_pure (wpAny_bind (ty.at (wpAny_bind (got.at ?_)))))))
  show wpAny _ _ (holding [Value.builtin "object.__class__"] (call (.builtin "getset_descriptor.__get__") [.builtin "object.__class__", .ref x, .ref D]) >>= ret) _ _ _
  refine wpAny_bind (wpAny_holding (wpAny_call (class_get (s := ⟨hp, g, d, t + 1, os⟩) (ox := ox) (od := od) kin I T.hm (wpAny_pure ?_))))
  show wpAny _ _ (handedOut (.ref D)) _ _ _
  rw [handedOut_of (v := .ref D) rfl]
  first
    | exact wpAny_pure (wpAny_pure q)
    | exact wpAny_pure q
    | exact wpAny_pure (wpAny_bind (wpAny_pure (wpAny_pure q)))
open PySem.W in
theorem kitD (T : ExcC K D) : KitX K (.ref x) (.ref D) (fun h => ∃ ox od, InstAt h x ox D od) where
  ty := fun _ _ _ ⟨_, _, I⟩ => I.type
  it := fun _ _ kin _ => by
    obtain ⟨cd, hc, _⟩ := any_some T.hd
    unfold clsIn at hc
    split at hc
    · rename_i ho
      intro A' Q' E' s' k q
      unfold isType loadHead
      exact wpAny_bind (wpAny_loadPart (k _ _ (kin _ _ ho)) (wpAny_pure q))
    · cases hc
  ne := fun h tp dd its n sl kin ht => by
    obtain ⟨cd, hc, _⟩ := any_some T.hd
    unfold clsIn at hc
    split at hc
    · rename_i ho
      cases z : (Value.ref D == Value.ref tp) with
      | false => rfl
      | true =>
        have e : D = tp := Value.ref.inj (beq_iff_eq.mp z)
        subst e
        cases (kin _ _ ho).symm.trans ht
    · cases hc
  ca := fun kin ⟨_, _, I⟩ k => excCls T kin I k
end
/-- what isinstance(e, c) wishes: a the exception, dd its dict -/
def rIsD (K : PySem.W.Frag) (D a : Addr) (d : Option Addr) : List V → Hp → VK → Prop := fun xs H Q => ∃ (c : V) (cv : Value) (b : Bool) (dd : Addr) (fs : List (Str × V)), xs = [.ref a, c] ∧ (∀ u, RelV c u → u = cv) ∧ PySem.W.kitOne K (.ref D) cv = some b ∧ d = some dd ∧ H dd = some (.xd fs) ∧ Q (.bl b) H
theorem call_isD {X : Cx} {a D : Addr} {oe : Obj} {d : Option Addr} {pn : List (Addr × Obj)} (T : ExcC X.K D) (hz : Zc (.ref D) d oe) (hf : ∃ vs, oe.data = .fields vs) : CallR (X.suite a ((a, oe) :: pn)) (.builtin "isinstance") (rIsD X.K D a d) := by
  intro pins s σ H xs us Q I r h
  obtain ⟨c, cv, b, dd, fs, rfl, hcv, e, rfl, hd, q⟩ := h
  cases r with
  | cons rx rr =>
    cases rr with
    | cons rt rr =>
      cases rr
      cases rx
      have ec := hcv _ rt
      subst ec
      obtain ⟨hget, _⟩ := I.pin (a, oe) (List.mem_append.mpr (.inl List.mem_cons_self))
      obtain ⟨vs, hv⟩ := hf
      have hx : ObjOk X.prog X.w H s.heap dd (.xd fs) := I.hok dd _ hd
      obtain ⟨mA, hns, _⟩ := hx
      obtain ⟨od, ho, _⟩ := lookIn_ns hns
      have J : PySem.W.InstAt s.heap a oe D (some od) := ⟨hget, hz.1, by unfold PySem.W.notCls; rw [hv] <;> rfl, by rw [hz.2]; exact ho⟩
      exact PySem.W.kia_one (kitD T) I.kIn ⟨_, _, J⟩ e (fun z => nomatch z) fun tk => ⟨.bl b, H, I.kept (t' := tk) fun _ _ z => z, rfl, q⟩
/-- what the head says of the class named x -/
def isvB (K : PySem.W.Frag) (D : Addr) (c : String) : Bool := decide (PySem.W.findIn K (.ref D) "__class__" = some (some (.builtin "object.__class__"))) && (decide (PySem.W.specialIn K (.builtin "object.__class__") "__get__" = some (some (.builtin "getset_descriptor.__get__"))) && (decide (PySem.W.takesIn K (.builtin "object.__class__") = some true) && (decide (PySem.W.mroIn K D (.type "object") = some true) && decide (PySem.W.kitOne K (.ref D) (.type c) = some true))))
theorem isvB_ok {K : PySem.W.Frag} {D : Addr} {c : String} (h : isvB K D c = true) (T : XfC K D) : ExcC K D ∧ PySem.W.kitOne K (.ref D) (.type c) = some true := by
  unfold isvB at h
  obtain ⟨h1, h⟩ := He.ba h
  obtain ⟨h2, h⟩ := He.ba h
  obtain ⟨h3, h⟩ := He.ba h
  obtain ⟨h4, h5⟩ := He.ba h
  exact ⟨⟨T.ga, T.gg, T.exC, T.hdC, of_decide_eq_true h1, of_decide_eq_true h2, of_decide_eq_true h3, of_decide_eq_true h4⟩, of_decide_eq_true h5⟩
end DD
namespace DD
open PySem PySem.Spec PyProof.Rows L2
/-- what a clause returns of its exception n: (n.f, n.g), n.f -/
inductive HR where
  | two (f g : Str)
  | one (f : Str)
  | isv (f k : Str)
def HR.val : HR → List (Str × D) → Option D
  | .two f g, fs => (fs.lookup f).bind fun d => (fs.lookup g).map fun e => .tup [d, e]
  | .one f, fs => fs.lookup f
  | .isv f k, fs => (fs.lookup f).bind fun d => match d with
    | .str y => some (.bl (decide (y = k)))
    | _ => none
def hrOf : List (Str × HR) → Str → Option HR
  | [], _ => none
  | q :: l, c => if q.1 = c then some q.2 else hrOf l c
def tryEnd (i : Nat) (cl : List (Str × HR)) (env : List Sl) (c : Str) (fs : List (Str × D)) : Option D := (hrOf cl c).bind fun r => (r.val fs).bind fun d => if d.hard && decide (i < env.length) then some d else none
def tryResN {S : Type} (i : Nat) (cl : List (Str × HR)) (env : List Sl) : Out S D → Out S Fl
  | .ok _ s' => .ok (.nx env) s'
  | .ex c fs s' => match tryEnd i cl env c fs with
    | some d => .ok (.rt d) s'
    | none => .bad
  | .bad => .bad
def sTryN {S : Type} (i : Nat) (cl : List (Str × HR)) (fn : List D → M S D) (n : Nat) (mr : En S (List D)) : En S Fl := fun env s => match mr env s with
  | .ok ds s1 => if ds.length = n then tryResN i cl env (fn ds s1) else .bad
  | _ => .bad
/-- the class named c is none of that named x -/
structure NeD (g : Gx) (c x : Str) : Prop where
  ne : ∀ Ca Cb : Addr, g.mg c = some (.ref Ca) → g.mg x = some (.ref Cb) → PySem.W.exmOne g.K (.ref Ca) (.ref Cb) = some false
def neB (K : PySem.W.Frag) (c x : Str) : Bool := decide (PySem.W.exmOne K (.ref (He.ga K c)) (.ref (He.ga K x)) = some false)
theorem neB_ok {P : Program} {w : World} {K : PySem.W.Frag} {mg : Str → Option Value} {c x : Str} (h : neB K c x = true) (hc : mg c = some (.ref (He.ga K c))) (hx : mg x = some (.ref (He.ga K x))) : NeD ⟨P, w, K, mg⟩ c x where
  ne := fun Ca Cb h1 h2 => by
    have e1 := h1.symm.trans hc
    have e2 := h2.symm.trans hx
    injection e1 with e1
    injection e1 with e1
    injection e2 with e2
    injection e2 with e2
    subst e1 e2
    exact of_decide_eq_true h
inductive HAst (X : Cx) (nm : Str) : List ExceptHandler → List (Str × HR) → Prop
  | nil : HAst X nm [] []
  | two {xc f1 f2 : Str} {tk : Nat} {np p1 p2 p3 p4 tpos rpos hpos : Pos} {hs : List ExceptHandler} {cl : List (Str × HR)} (T : XfD (gx X) xc [f1, f2]) (r : HAst X nm hs cl) (ne : ∀ q ∈ cl, NeD (gx X) q.1 xc) (hgc : Gl X xc := by rfl) (hdc : (xc == ("__debug__" : Str)) = false := by decide +kernel)
      (hdn : (nm == ("__debug__" : Str)) = false := by decide +kernel) (hcd : (nm == ("__classdict__" : Str)) = false := by decide +kernel)
      (hb1 : attributeBase (.Name nm p1) f1 X.env (eval (.Name nm p1) X.env) = eval (.Name nm p1) X.env := by rfl) (hb2 : attributeBase (.Name nm p3) f2 X.env (eval (.Name nm p3) X.env) = eval (.Name nm p3) X.env := by rfl)
      (hs1 : starEach [.Attribute (.Name nm p1) f1 p2, .Attribute (.Name nm p3) f2 p4] X.env = (false, eval (.Attribute (.Name nm p1) f1 p2) X.env) :: starEach [.Attribute (.Name nm p3) f2 p4] X.env := by rfl)
      (hs2 : starEach [.Attribute (.Name nm p3) f2 p4] X.env = (false, eval (.Attribute (.Name nm p3) f2 p4) X.env) :: starEach [] X.env := by rfl) :
      HAst X nm (.ExceptHandler (some (.Name xc np)) (some nm) [.Return (some (.Tuple [.Attribute (.Name nm p1) f1 p2, .Attribute (.Name nm p3) f2 p4] tk tpos)) rpos] hpos :: hs) ((xc, .two f1 f2) :: cl)
  | one {xc f1 : Str} {np p1 p2 rpos hpos : Pos} {hs : List ExceptHandler} {cl : List (Str × HR)} (T : XfD (gx X) xc [f1]) (r : HAst X nm hs cl) (ne : ∀ q ∈ cl, NeD (gx X) q.1 xc) (hgc : Gl X xc := by rfl) (hdc : (xc == ("__debug__" : Str)) = false := by decide +kernel)
      (hdn : (nm == ("__debug__" : Str)) = false := by decide +kernel) (hcd : (nm == ("__classdict__" : Str)) = false := by decide +kernel)
      (hb1 : attributeBase (.Name nm p1) f1 X.env (eval (.Name nm p1) X.env) = eval (.Name nm p1) X.env := by rfl) :
      HAst X nm (.ExceptHandler (some (.Name xc np)) (some nm) [.Return (some (.Attribute (.Name nm p1) f1 p2)) rpos] hpos :: hs) ((xc, .one f1) :: cl)
  | isv {xc f1 k : Str} {j : Nat} {np pi p1 p2 p3 p4 p5 p6 p7 p8 rpos hpos : Pos} {hs : List ExceptHandler} {cl : List (Str × HR)} (T : XfD (gx X) xc [f1]) (hv : ∀ Ca, X.mg xc = some (.ref Ca) → ExcC X.K Ca ∧ PySem.W.kitOne X.K (.ref Ca) (.type "ValueError") = some true) (him : X.mg "isinstance" = none) (hve : X.mg "ValueError" = none) (r : HAst X nm hs cl) (ne : ∀ q ∈ cl, NeD (gx X) q.1 xc) (hgc : Gl X xc := by rfl) (hdc : (xc == ("__debug__" : Str)) = false := by decide +kernel)
      (hdn : (nm == ("__debug__" : Str)) = false := by decide +kernel) (hcd : (nm == ("__classdict__" : Str)) = false := by decide +kernel) (hgi : Gl X "isinstance" := by rfl) (hgv : Gl X "ValueError" := by rfl)
      (hb1 : attributeBase (.Name nm p4) f1 X.env (eval (.Name nm p4) X.env) = eval (.Name nm p4) X.env := by rfl)
      (hs1 : starEach [.Name nm p1, .Name "ValueError" p2] X.env = (false, eval (.Name nm p1) X.env) :: starEach [.Name "ValueError" p2] X.env := by rfl) (hs2 : starEach [.Name "ValueError" p2] X.env = (false, eval (.Name "ValueError" p2) X.env) :: starEach [] X.env := by rfl)
      (hpl : (backTo p3 (starEach [.Name "ValueError" p2] X.env)).any (·.1) = false := by rfl) :
      HAst X nm (.ExceptHandler (some (.Name xc np)) (some nm) [.Return (some (.BoolOp .And [.Call (.Name "isinstance" pi) [.Name nm p1, .Name "ValueError" p2] [] p3, .Compare (.Attribute (.Name nm p4) f1 p5) [.Eq] [.Constant (.str k) j p6] p7] p8)) rpos] hpos :: hs) ((xc, .isv f1 k) :: cl)
theorem hr_in {c : Str} {r : HR} : ∀ {cl : List (Str × HR)}, hrOf cl c = some r → ∃ q ∈ cl, q.1 = c
  | [], h => by cases h
  | q :: cl, h => by
    unfold hrOf at h
    by_cases z : q.1 = c
    · exact ⟨q, List.mem_cons_self, z⟩
    · rw [if_neg z] at h
      obtain ⟨y, hy, hz⟩ := hr_in h
      exact ⟨y, List.mem_cons_of_mem _ hy, hz⟩
theorem te_in {i : Nat} {cl : List (Str × HR)} {env : List Sl} {c : Str} {fs : List (Str × D)} {d : D} (h : tryEnd i cl env c fs = some d) : ∃ q ∈ cl, q.1 = c := by
  unfold tryEnd at h
  cases e : hrOf cl c with
  | none => rw [e] at h; cases h
  | some r => exact hr_in e
section
variable {S : Type} {wd : Wd S} {X : Cx} {C : Dc wd} {al : List Nat} {e : Expr} {es : List Expr} {mr : En S (List D)} {lv lv' n i : Nat} {x nm : Str} {fn : List D → M S D} {p pos cpos epos : Pos}
theorem cls_of (hi : X.N[i]? = some nm) (hln : X.env.kindOf nm = some .local) {W0 : WX} {hs : List ExceptHandler} {cl : List (Str × HR)} (h : HAst X nm hs cl) : ∃ l, ClsN X hs l ∧ ∀ (Dn : Ends) (c : Str) (Cc dd : Addr) (fs : List (Str × D)) (vs : List (Str × V)) (env : List Sl) (σ : L2.St) (H : Hp) (s : S) (d : D), RelE (gx X) C env σ H s → tryEnd i cl env c fs = some d → X.mg c = some (.ref Cc) → H dd = some (.xd vs) → RepF X.K wd.foot H fs vs →
    (∀ v H', Mv wd.foot C.Hb wd.foot H' → wd.rel s H' → Rep X.K C.av H' d v → Dn.rt v H') → wNames X.K W0 Dn l (.ref Cc) (some dd) σ H := by
  have hloc : X.env.scope.names.lookup nm = some .local := hln
  induction h with
  | nil => exact ⟨[], .nil, fun Dn c Cc dd fs vs env σ H s d R h => by cases h⟩
  | @two xc f1 f2 tk np p1 p2 p3 p4 tpos rpos hpos hs cl T r ne hgc hdc hdn hcd hb1 hb2 hs1 hs2 ih =>
    obtain ⟨l, h1, h2⟩ := ih
    obtain ⟨Ca, hm, xf, ht, hfn⟩ := T.ex
    refine ⟨(.ref Ca, i, fun a cls d Dn σ H => tRet (tTupZ (tCons (tXf a cls d Ca f1 (tVar i)) (tCons (tXf a cls d Ca f2 (tVar i)) tNil))) Dn σ H) :: l, .cons ⟨hgc, hdc, .inl hm⟩ hi hln (fun a o cls d pn hz hfl => ?_) h1, ?_⟩
    · exact pss_one (ps_ret (pe_tupZ (pa_cons (pe_xf (X := X) xf (hfn f1 (by simp)) hz hfl (pe_var hi (.inl hloc) hdn hcd) hb1) (pa_cons (pe_xf (X := X) xf (hfn f2 (by simp)) hz hfl (pe_var hi (.inl hloc) hdn hcd) hb2) pa_nil hs2) hs1)))
    · intro Dn c Cc dd fs vs env σ H s d R te gm hd rf out
      by_cases hc : xc = c
      · subst hc
        have : Cc = Ca := by
          have z := gm.symm.trans hm
          injection z with z
          injection z with z
        subst this
        unfold tryEnd hrOf HR.val at te
        rw [if_pos rfl] at te
        simp only [Option.bind_some] at te
        cases e1 : fs.lookup f1 with
        | none => rw [e1] at te; cases te
        | some d1 =>
          cases e2 : fs.lookup f2 with
          | none => rw [e1, e2] at te; cases te
          | some d2 =>
            rw [e1, e2] at te
            simp only [Option.bind_some, Option.map_some] at te
            split at te
            · rename_i hh
              cases te
              simp only [Bool.and_eq_true, decide_eq_true_eq, D.hard, hards, Bool.and_true] at hh
              obtain ⟨⟨hh1, hh2⟩, hi'⟩ := hh
              obtain ⟨v1, l1, q1⟩ := repF_lookup rf e1
              obtain ⟨v2, l2, q2⟩ := repF_lookup rf e2
              refine ⟨true, ht, fun _ a na => ?_, fun z => by cases z⟩
              have hget : (σ.set i (some (V.ref a)))[i]? = some (some (V.ref a)) := List.getElem?_set_self (by rw [← R.len]; exact hi')
              refine ⟨.ref a, hget, rfl, rfl, dd, vs, v1, rfl, hd, l1, .ref a, hget, rfl, rfl, dd, vs, v2, rfl, hd, l2, small4096 (by simp), fun p o hp ho => ?_⟩
              obtain ⟨m3, r3, m4⟩ := Wd.laidX wd (o := .frz o (.tup [v1, v2])) R.rel hp C.sub
              refine out _ _ (R.ext.trans m3) r3 ?_
              simp only [Rep]
              exact ⟨p, _, rfl, .at ho, .cons ((Rep.hard hh1 q1).mv (m4.thin fun a z => .inl z)) (.cons ((Rep.hard hh2 q2).mv (m4.thin fun a z => .inl z)) .nil)⟩
            · cases te
      · have te2 : tryEnd i cl env c fs = some d := by
          unfold tryEnd hrOf at te
          rw [if_neg hc] at te
          exact te
        obtain ⟨q, hq, rfl⟩ := te_in te2
        exact ⟨false, (ne q hq).ne _ _ gm hm, fun z => (Bool.false_ne_true z).elim, fun _ => h2 Dn _ Cc dd fs vs env σ H s d R te2 gm hd rf out⟩
  | @one xc f1 np p1 p2 rpos hpos hs cl T r ne hgc hdc hdn hcd hb1 ih =>
    obtain ⟨l, h1, h2⟩ := ih
    obtain ⟨Ca, hm, xf, ht, hfn⟩ := T.ex
    refine ⟨(.ref Ca, i, fun a cls d Dn σ H => tRet (tXf a cls d Ca f1 (tVar i)) Dn σ H) :: l, .cons ⟨hgc, hdc, .inl hm⟩ hi hln (fun a o cls d pn hz hfl => ?_) h1, ?_⟩
    · exact pss_one (ps_ret (pe_xf (X := X) xf (hfn f1 (by simp)) hz hfl (pe_var hi (.inl hloc) hdn hcd) hb1))
    · intro Dn c Cc dd fs vs env σ H s d R te gm hd rf out
      by_cases hc : xc = c
      · subst hc
        have : Cc = Ca := by
          have z := gm.symm.trans hm
          injection z with z
          injection z with z
        subst this
        unfold tryEnd hrOf HR.val at te
        rw [if_pos rfl] at te
        simp only [Option.bind_some] at te
        cases e1 : fs.lookup f1 with
        | none => rw [e1] at te; cases te
        | some d1 =>
          rw [e1] at te
          simp only [Option.bind_some] at te
          split at te
          · rename_i hh
            cases te
            simp only [Bool.and_eq_true, decide_eq_true_eq] at hh
            obtain ⟨hh1, hi'⟩ := hh
            obtain ⟨v1, l1, q1⟩ := repF_lookup rf e1
            refine ⟨true, ht, fun _ a na => ?_, fun z => by cases z⟩
            have hget : (σ.set i (some (V.ref a)))[i]? = some (some (V.ref a)) := List.getElem?_set_self (by rw [← R.len]; exact hi')
            exact ⟨.ref a, hget, rfl, rfl, dd, vs, v1, rfl, hd, l1, out _ _ R.ext R.rel (Rep.hard hh1 q1)⟩
          · cases te
      · have te2 : tryEnd i cl env c fs = some d := by
          unfold tryEnd hrOf at te
          rw [if_neg hc] at te
          exact te
        obtain ⟨q, hq, rfl⟩ := te_in te2
        exact ⟨false, (ne q hq).ne _ _ gm hm, fun z => (Bool.false_ne_true z).elim, fun _ => h2 Dn _ Cc dd fs vs env σ H s d R te2 gm hd rf out⟩
  | @isv xc f1 k j np pi p1 p2 p3 p4 p5 p6 p7 p8 rpos hpos hs cl T hv him hve r ne hgc hdc hdn hcd hgi hgv hb1 hs1 hs2 hpl ih =>
    obtain ⟨l, h1, h2⟩ := ih
    obtain ⟨Ca, hm, xf, ht, hfn⟩ := T.ex
    obtain ⟨ec, kit⟩ := hv Ca hm
    refine ⟨(.ref Ca, i, fun a cls d Dn σ H => tRet (fun σ H Q => cls = .ref Ca ∧ tAndV (tCB (rIsD X.K Ca a d) (tCons (tVar i) (tCons (L2.tC (V.ty "ValueError")) tNil))) (tOp rEq (tXf a cls d Ca f1 (tVar i)) (L2.tC (.str k))) σ H Q) Dn σ H) :: l, .cons ⟨hgc, hdc, .inl hm⟩ hi hln (fun a o cls d pn hz hfl => ?_) h1, ?_⟩
    · refine pss_one (ps_ret ⟨fun pins s σ H Q I ⟨ecl, w⟩ => ?_⟩)
      subst ecl
      exact (pe_and (pe_callB (X := X.suite a ((a, o) :: pn)) (call_isD ec hz hfl) hgi him (by decide +kernel) (pa_cons (pe_var hi (.inl hloc) hdn hcd) (pa_cons (pe_bltn (v := V.ty "ValueError") (u := .type "ValueError") hgv hve (by decide +kernel) rfl (by decide +kernel) (by decide +kernel)) pa_nil hs2) hs1) (by decide +kernel) (by decide +kernel) hs1 hpl) (pe_one (pe_cmpR op_eq (pe_xf (X := X) xf (hfn f1 (by simp)) hz hfl (pe_var hi (.inl hloc) hdn hcd) hb1) pe_str (nomark _)))).run pins s σ H Q I w
    · intro Dn c Cc dd fs vs env σ H s d R te gm hd rf out
      by_cases hc : xc = c
      · subst hc
        have : Cc = Ca := by
          have z := gm.symm.trans hm
          injection z with z
          injection z with z
        subst this
        unfold tryEnd hrOf HR.val at te
        rw [if_pos rfl] at te
        simp only [Option.bind_some] at te
        cases e1 : fs.lookup f1 with
        | none => rw [e1] at te; cases te
        | some d1 =>
          rw [e1] at te
          simp only [Option.bind_some] at te
          cases d1 with
          | str y =>
            simp only [Option.bind_some] at te
            split at te
            · rename_i hh
              cases te
              simp only [Bool.and_eq_true, decide_eq_true_eq] at hh
              obtain ⟨_, hi'⟩ := hh
              obtain ⟨v1, l1, q1⟩ := repF_lookup rf e1
              simp only [Rep] at q1
              obtain ⟨rfl, _⟩ := q1
              refine ⟨true, ht, fun _ a na => ?_, fun z => by cases z⟩
              have hget : (σ.set i (some (V.ref a)))[i]? = some (some (V.ref a)) := List.getElem?_set_self (by rw [← R.len]; exact hi')
              refine ⟨rfl, .ref a, hget, ?_⟩
              refine ⟨V.ty "ValueError", .type "ValueError", true, dd, vs, rfl, fun u q => q, kit, rfl, hd, true, rfl, ?_⟩
              rw [if_pos rfl]
              refine ⟨.ref a, hget, rfl, rfl, dd, vs, .str y, rfl, hd, l1, rfl, ?_⟩
              have := out (.bl (decide (y = k))) H R.ext R.rel (by simp only [Rep])
              have e : decide (V.str y = V.str k) = decide (y = k) := by
                rw [Bool.eq_iff_iff, decide_eq_true_iff, decide_eq_true_iff]
                exact ⟨fun z => by injection z, fun z => by rw [z]⟩
              rw [e]
              exact this
            · cases te
          | _ => cases te
      · have te2 : tryEnd i cl env c fs = some d := by
          unfold tryEnd hrOf at te
          rw [if_neg hc] at te
          exact te
        obtain ⟨q, hq, rfl⟩ := te_in te2
        exact ⟨false, (ne q hq).ne _ _ gm hm, fun z => (Bool.false_ne_true z).elim, fun _ => h2 Dn _ Cc dd fs vs env σ H s d R te2 gm hd rf out⟩
theorem ds_tryN {h0 : ExceptHandler} {hds : List ExceptHandler} {cl : List (Str × HR)} (F : CF lv X C) (h : FnD (gx X) X.base lv' wd x n fn)
    (ha : ∀ pn xe, CF lv (X.tr pn xe) (noE C) → DA (X.tr pn xe) (noE C) (e :: es) al mr) (hh : HAst X nm (h0 :: hds) cl)
    (hs : X.stack = X.env :: X.outer := by rfl) (hf : X.env.frame = some X.env.locals := by rfl) (hi : X.N[i]? = some nm := by rfl) (hln : X.env.kindOf nm = some .local := by rfl)
    (le : lv' ≤ lv := by decide) (hg : Gl X x := by rfl) (hdb : (x == ("__debug__" : Str)) = false := by decide +kernel)
    (he : starEach (e :: es) X.env = (false, eval e X.env) :: starEach es X.env := by rfl) (hpl : (backTo cpos (starEach es X.env)).any (·.1) = false := by rfl)
    (hsw : swapsWith (.Call (.Name x p) (e :: es) [] cpos) none epos.line X.env = pure false := by rfl) :
    DS X C (.Try [.Expr (.Call (.Name x p) (e :: es) [] cpos) epos] (h0 :: hds) [] [] pos) (sTryN i cl fn n mr) := by
  obtain ⟨f, fd, ps, h1, h2, h3, h4⟩ := h.ex
  obtain ⟨l, hl1, hl2⟩ := cls_of (C := noE C) (W0 := fun cls d _ H => C.E cls d H) hi hln hh
  refine ⟨PS_imp (ps_try_names (W0 := fun cls d _ H => C.E cls d H) hs hf F.nd F.tk (tb := fun W Dn σ H => tDrop (tCallS (spD (gx X) wd n fn) (WE W) (lA (gx X) (noE C) al mr)) Dn σ H) (fun W pn xe tk po => ?_) hl1) fun Dn σ H ⟨env, s, R, h⟩ => ?_⟩
  · exact pss_one (ps_expr (pe_callS (X := X.tr pn xe) h3 (F.room.mono le) hg h1 h2 h4 (passAt tk) (ha pn xe ⟨F.calm, F.nd, F.room, fun u s' x => by
      obtain ⟨_, _, _, _, _, _, _, _, _, _, _, _, _, _, _, _, q⟩ := x
      exact False.elim q, po⟩).run hdb he hpl) hsw)
  · unfold sTryN at h
    refine ⟨env, s, R.noE, ?_⟩
    cases em : mr env s with
    | bad => rw [em] at h; exact False.elim h
    | ex c fs s1 => rw [em] at h; exact False.elim h
    | ok ds s1 =>
      rw [em] at h
      dsimp only at h
      intro vs H1 m1 r1 q1
      have R1 := R.step m1 r1
      by_cases hl : ds.length = n
      · rw [if_pos hl] at h
        refine ⟨Ow C env σ al, ds, s1, fun a z => .inl (C.sub a z), fun a z => R1.here z, r1, q1, hl, ?_⟩
        cases ef : fn ds s1 with
        | bad => rw [ef] at h; exact False.elim h
        | ok d s2 =>
          rw [ef] at h
          exact fun v H2 m2 r2 _ => h σ H2 (R1.step m2 r2) (Ext.ow R (m1.trans m2))
        | ex c fs s2 =>
          rw [ef] at h
          unfold tryResN at h
          dsimp only at h
          cases te : tryEnd i cl env c fs with
          | none => rw [te] at h; exact False.elim h
          | some d =>
            rw [te] at h
            intro Cx dd vs2 H2 gm m2 r2 hd rf
            have R2 := R1.step m2 r2
            exact hl2 Dn c Cx dd fs vs2 env σ H2 s2 d R2.noE te gm hd rf fun v H3 m3 r3 q3 => h v H3 m3 r3 q3
      · rw [if_neg hl] at h
        exact False.elim h
end
end DD
namespace DD
open PySem PySem.Spec PyProof.Rows L2 HT
section
variable {prog : Program} {w : World} {A : Around} {E : Value → Shared → Prop} {s : Shared}
/-- the places of t[::-1] -/
theorem rev_pick (xs : Array Value) : ((List.range xs.size).filterMap fun (m : Nat) => xs[(((xs.size : Int) - 1) + (m : Int) * (-1)).toNat]?).toArray = xs.toList.reverse.toArray := by
  congr 1
  have h : ∀ (n : Nat) (ys : List Nat), (∀ m ∈ ys, m < n) → n = xs.size → ys.filterMap (fun (m : Nat) => xs[(((xs.size : Int) - 1) + (m : Int) * (-1)).toNat]?) = ys.map fun m => xs[xs.size - 1 - m]! := by
    intro n ys hy hn
    induction ys with
    | nil => rfl
    | cons m ys ih =>
      have hm := hy m List.mem_cons_self
      have e : (((xs.size : Int) - 1) + (m : Int) * (-1)).toNat = xs.size - 1 - m := by omega
      rw [List.filterMap_cons, e, Array.getElem?_eq_getElem (by omega), List.map_cons, ih fun z hz => hy z (List.mem_cons_of_mem _ hz), getElem!_pos xs (xs.size - 1 - m) (by omega)]
  rw [h xs.size _ (fun m hm => List.mem_range.mp hm) rfl]
  apply List.ext_getElem?
  intro i
  by_cases hi : i < xs.size
  · rw [List.getElem?_map, List.getElem?_eq_getElem (by simpa using hi), List.getElem?_reverse (by simpa using hi)]
    simp only [Option.map_some, List.getElem_range, Array.length_toList]
    rw [getElem!_pos xs (xs.size - 1 - i) (by omega), Array.getElem?_toList, Array.getElem?_eq_getElem (by omega)]
  · rw [List.getElem?_eq_none (by simpa using hi), List.getElem?_eq_none (by simpa using hi)]
theorem sliceRev {sl : Addr} {vs : Value} {n : Nat} {Q : Int × Int × Nat → Shared → Prop} (hs : s.heap.IsSliceOf sl .none .none vs) (ps : IsPart vs (some (-1)))
    (h : Q ((n : Int) - 1, -1, n) s) : wpAny (model prog w) A (Builtin.Slice.sliceApplied (.ref sl) (pure (n : Int))) Q E s := by
  obtain ⟨os, hos, hcs, hds⟩ := id hs
  unfold Builtin.Slice.sliceApplied Builtin.Slice.sliceFields
  refine wpAny_bind (wpAny_bind (wpAny_field hos hds (x := .none) rfl (wpAny_bind (wpAny_field hos hds (x := .none) rfl (wpAny_bind (wpAny_field hos hds (x := vs) rfl (wpAny_pure ?_)))))))
  refine wpAny_bind (slicePart_ ps ?_)
  show wpAny _ _ (if ((-1 : Int) == 0) = true then _ else _) _ _ s
  rw [if_neg (by decide)]
  refine wpAny_bind (slicePart_none (wpAny_bind (slicePart_none (wpAny_bind (wpAny_pure ?_)))))
  have e : Builtin.Slice.sliceAdjust none none (-1) (n : Int) = ((n : Int) - 1, -1) := by
    simp [Builtin.Slice.sliceAdjust]
  have e2 : Builtin.Slice.slicePlaces ((n : Int) - 1) (-1) (-1) = n := by
    unfold Builtin.Slice.slicePlaces
    rw [if_neg (by decide)]
    by_cases z : n = 0
    · subst z; rfl
    · rw [if_pos (by omega), show (-(-1 : Int)) = 1 from rfl, Int.ediv_one]
      omega
  show wpAny _ _ (match Builtin.Slice.sliceAdjust none none (-1) (n : Int) with | (lo, hi) => pure (lo, (-1 : Int), Builtin.Slice.slicePlaces lo hi (-1))) _ _ s
  rw [e]
  show wpAny _ _ (pure ((n : Int) - 1, (-1 : Int), Builtin.Slice.slicePlaces ((n : Int) - 1) (-1) (-1))) _ _ s
  rw [e2]
  exact wpAny_pure h
theorem item_tuple_rev {t sl : Addr} {items : Array Value} {vs : Value} {Q : Value → Shared → Prop} (ht : IsTup s.heap t items) (hs : s.heap.IsSliceOf sl .none .none vs) (ps : IsPart vs (some (-1)))
    (h : Q (.ref s.heap.objs.size) { s with heap := s.heap.push { cls := .type "tuple", data := .seq items.toList.reverse.toArray } }) (hz : items.size ≤ sizeLine) : wpAny (model prog w) A (getItem (.ref t) (.ref sl)) Q E s := by
  have ok : sizeOk (.seq items.toList.reverse.toArray) := by
    show items.toList.reverse.toArray.size ≤ sizeLine
    rw [List.size_toArray, List.length_reverse, Array.length_toList]
    exact hz
  obtain ⟨os, hos, hcs, _⟩ := id hs
  have isl : s.TypeIs (.ref sl) "slice" := ⟨os, hos, hcs⟩
  unfold getItem
  try with_reducible refine wpAny_holding ?_
  first | refine wpAny_bind (wpAny_pure ?_) | skip
  refine wpAny_bind (wpAny_sequenceKey ht.typeIs (by decide) ?_)
  refine wpAny_bind (wpAny_callSpecial?_slot (name := Str.ofString "__getitem__") ht.typeIs PyProof.Rows.slot_tuple_getitem (wpAny_call_entry PyProof.Rows.slot_tuple_getitem ht.typeIs entry_tuple_getitem ?_ (args_tuple_getitem _ _)))
  show wpAny _ _ (Builtin.Tuple.tupleItemsOf (.ref t) >>= _) _ _ s
  refine wpAny_bind (tupleItemsOf_ ht (wpAny_bind (wpAny_typeOf isl ?_)))
  rw [if_pos (by decide)]
  refine wpAny_bind (sliceRev (n := items.size) hs ps ?_)
  have no : ¬ (((((items.size : Int) - 1) == 0 && (-1 : Int) == 1) && items.size == items.size) = true) := by simp
  show wpAny _ _ (if ((((items.size : Int) - 1) == 0 && (-1 : Int) == 1) && items.size == items.size) = true then _ else _) _ _ s
  rw [if_neg no, rev_pick]
  first
    | exact wpAny_bind (m := Builtin.Tuple.tupleExact _) (wpAny_newObj_type (wpAny_pure ⟨_, rfl, wpAny_pure h⟩) ok)
    | exact wpAny_bind (m := Builtin.Tuple.tupleExact _) (wpAny_newObj_type (wpAny_bind (wpAny_pure (wpAny_pure ⟨_, rfl, wpAny_pure h⟩))) ok)
    | exact wpAny_bind (wpAny_bind (m := Builtin.Tuple.tupleExact _) (wpAny_newObj_type (wpAny_pure (wpAny_pure ⟨_, rfl, wpAny_pure h⟩)) ok))
    | exact wpAny_bind (wpAny_bind (m := Builtin.Tuple.tupleExact _) (wpAny_newObj_type (wpAny_pure ⟨_, rfl, wpAny_pure h⟩) ok))
end
/-- x[::-1] of a list or a tuple -/
def tRevA (K : PySem.W.Frag) (te : TE) : TE := fun σ H Q => te σ H fun x H1 => ∃ a xs, x = .ref a ∧ ((SqL K H1 a xs ∧ ∀ p, H1 p = none → Q (.ref p) (upd H1 p (.lst xs.reverse))) ∨ (SqT K H1 a xs ∧ ∀ p o, H1 p = none → o.dict = none → Q (.ref p) (upd H1 p (.frz o (.tup xs.reverse)))))
theorem pe_revA {X : Cx} {e : Expr} {te : TE} {k : Nat} {p1 p2 p3 pos : Pos} (he : PE X e te) : PE X (.Subscript e (.Slice none none (some (.UnaryOp .USub (.Constant (.int 1) k p1) p2)) p3) pos) (tRevA X.K te) := by
  refine ⟨fun pins s σ H Q I h => Subscript_ (thn (he.run pins s σ H _ I h) fun v s1 ⟨x, H1, I1, r1, a, xs, ex, q⟩ => ?_)⟩
  subst ex
  cases r1
  have step : PO X (some (.UnaryOp .USub (.Constant (.int 1) k p1) p2)) (tPart (tUn (rU fun i => .int (-i)) (L2.tC (V.int 1)))) := po_some (pe_un un_neg pe_int)
  refine wpAny_Slice (thn (po_none.run pins s1 σ H1 (fun o G => o = none ∧ G = H1) I1 ⟨rfl, rfl⟩) fun vl s2 ⟨l, H2, I2, pl, el, e2⟩ => ?_)
  subst el e2
  refine thn (po_none.run pins s2 σ H2 (fun o G => o = none ∧ G = H2) I2 ⟨rfl, rfl⟩) fun vu s3 ⟨u, H3, I3, pu, eu, e3⟩ => ?_
  subst eu e3
  refine thn (step.run pins s3 σ H3 (fun o G => o = some (-1) ∧ G = H3) I3 ⟨1, rfl, -1, rfl, rfl, rfl⟩) fun vs s4 ⟨o, H4, I4, ps, eo, e4⟩ => ?_
  subst eo e4
  have I5 : Inv X pins σ H4 { s4 with heap := s4.heap.push { cls := .type "slice", data := .fields #[vl, vu, vs] } } := I4.kept (t' := s4.toks) fun b ob z => Heap.get?_push_of_some _ z
  show wpAny (model X.prog X.w) X.A (subscriptTail e (.Slice none none (some (.UnaryOp .USub (.Constant (.int 1) k p1) p2)) p3) (.ref a) (.ref s4.heap.objs.size)) (EP X pins σ Q) X.xe { s4 with heap := s4.heap.push { cls := .type "slice", data := .fields #[vl, vu, vs] } }
  rcases q with ⟨hx, q⟩ | ⟨hx, q⟩
  · obtain ⟨its, r, ht, hz⟩ := I5.list hx
    have hlen := r.length
    refine tail_any (ops := [.ref a, .ref s4.heap.objs.size]) ht.isList.typeIs (PySem.slot_list_getitem.lookup) ?_ (by with_unfolding_all rfl)
    refine wpAny_getItem_list_slice ht.isList (Heap.IsSliceOf.new _ vl vu vs) pl pu ps (by decide) ?_ (by rw [List.size_toArray]; omega)
    rw [PySem.W.krv_pick]
    exact ⟨.ref _, _, I5.laid (t' := s4.toks) (o := .lst xs.reverse) (fun b ob z => Heap.get?_push_of_some _ z) (Nat.le_refl _) ⟨by rw [List.length_reverse]; exact hz, _, 0, r.reverse, Heap.get?_push_size _ rfl⟩, rfl, q _ (I5.hok.fresh (Nat.le_refl _))⟩
  · obtain ⟨ws, rv, ht, hz⟩ := I5.tuple hx
    have hlen := rv.length
    refine tail_any (ops := [.ref a, .ref s4.heap.objs.size]) ht.typeIs (PyProof.Rows.slot_tuple_getitem.lookup) ?_ (by with_unfolding_all rfl)
    cases pl
    cases pu
    refine item_tuple_rev ht (Heap.IsSliceOf.new _ .none .none vs) ps ?_ (by rw [List.size_toArray]; omega)
    exact ⟨.ref _, _, inv_tupZ (s := { s4 with heap := s4.heap.push { cls := .type "slice", data := .fields #[.none, .none, vs] } }) (g := s4.heap.push { cls := .type "slice", data := .fields #[.none, .none, vs] }) I5 (rv.reverse) (by rw [List.length_reverse]; exact hz), rfl, q _ _ (I5.hok.fresh (Nat.le_refl _)) rfl⟩
def dRev2 : D → Option D
  | .lst l => some (.lst l.reverse)
  | .tup l => some (.tup l.reverse)
  | _ => none
section
variable {S : Type} {wd : Wd S} {X : Cx} {C : Dc wd} {al : List Nat} {e : Expr} {m : En S D} {pos p1 p2 p3 : Pos}
theorem de_rev2 {k : Nat} (he : DE X C e al m) : DE X C (.Subscript e (.Slice none none (some (.UnaryOp .USub (.Constant (.int 1) k p1) p2)) p3) pos) al (eOp1 dRev2 m) := by
  refine ⟨PE_imp (pe_revA he.run) fun σ H Q ⟨env, s, R, h⟩ => ?_⟩
  unfold eOp1 at h
  refine ⟨env, s, R, bindE R famE h fun d s1 x H1 R1 m1 q1 h1 => ?_⟩
  cases d with
  | lst l =>
    simp only [Rep] at q1
    obtain ⟨a, xs, rfl, t, r⟩ := q1
    refine ⟨a, xs, rfl, .inl ⟨t.seq, fun p hp => ?_⟩⟩
    obtain ⟨m4, r4⟩ := wd.laid (o := .lst xs.reverse) R1.rel hp
    refine h1 _ _ m4 r4 ?_
    simp only [Rep]
    exact ⟨p, _, rfl, ⟨upd_same, R1.new hp⟩, r.reverse.mv (Ext.ow R1 m4)⟩
  | tup l =>
    simp only [Rep] at q1
    obtain ⟨a, xs, rfl, t, r⟩ := q1
    refine ⟨a, xs, rfl, .inr ⟨t.seq, fun p o hp ho => ?_⟩⟩
    obtain ⟨m4, r4⟩ := wd.laid (o := .frz o (.tup xs.reverse)) R1.rel hp
    refine h1 _ _ m4 r4 ?_
    simp only [Rep]
    exact ⟨p, _, rfl, .at ho, r.reverse.mv (Ext.ow R1 m4)⟩
  | _ => exact False.elim h1
/-- items of a value that holds nothing that changes -/
def iSeqH (m : En S D) : En S (List D) := fun env => M.bind (m env) fun d => if d.hard = true then M.ofO (dItems d) else M.fail
theorem di_seqH {tg : Expr} (he : DE X C e al m) : DI X C false tg e [] (iSeqH m) := by
  refine ⟨PI_imp (pi_seqS he.run) fun σ H Q ⟨env, s, R, h⟩ => ?_⟩
  unfold iSeqH at h
  refine ⟨env, s, R, bindE R famI h fun d s1 x H1 R1 m1 q1 h1 => ?_⟩
  by_cases hd : d.hard = true
  · rw [if_pos hd] at h1
    cases ed : dItems d with
    | none => rw [ed] at h1; exact False.elim h1
    | some ds =>
      rw [ed] at h1
      exact src_of (Rep.hard hd q1) ed fun k hk => h1 _ _ H1 Mv.refl R1.rel it_seq hk
  · rw [if_neg hd] at h1; exact False.elim h1
end
end DD
/-! further objects that a part of a def changes: a world joined to the world -/
namespace DD
open PySem PySem.Spec PyProof.Rows L2
structure Exo (T : Type) where
  F : Set'
  rel : T → Hp → Prop
  loc : ∀ {t H H'}, rel t H → (∀ a, F a → H' a = H a) → rel t H'
  here : ∀ {t H a}, rel t H → F a → H a ≠ none
  flat : ∀ {t H a o}, rel t H → F a → H a = some o → isT o = false
def Wd.join {S T : Type} (wd : Wd S) (x : Exo T) : Wd (S × T) where
  foot := fun a => wd.foot a ∨ x.F a
  rel := fun s H => wd.rel s.1 H ∧ x.rel s.2 H ∧ ∀ a, x.F a → ¬ wd.foot a
  loc := fun ⟨h1, h2, h3⟩ e => ⟨wd.loc h1 fun a f => e a (.inl f), x.loc h2 fun a f => e a (.inr f), h3⟩
  here := fun ⟨h1, h2, _⟩ f => f.elim (wd.here h1) (x.here h2)
  flat := fun ⟨h1, h2, _⟩ f e => f.elim (fun f => wd.flat h1 f e) (fun f => x.flat h2 f e)
section
variable {S T ι : Type} {wd : Wd S} {g : Gx} {C : Dc wd} {env : List Sl} {σ : Sg} {H H1 : Hp} {s : S} {t : T}
theorem join_rel {x : Exo T} {s' : S} (R : RelE g C env σ H s) (no : ∀ (i : Nat) d, env[i]? ≠ some (.ow d)) (m : Mv wd.foot H wd.foot H1) (fr : ∀ a, x.F a → H a = none) (r : wd.rel s' H1) (rx : x.rel t H1) :
    ∃ C' : Dc (wd.join x), C'.E = C.E ∧ (∀ a, C'.av a ↔ (C.av a ∨ x.F a)) ∧ RelE g C' env σ H1 (s', t) ∧ (∀ H2, Mv (wd.join x).foot C'.Hb (wd.join x).foot H2 → Mv wd.foot C.Hb wd.foot H2) := by
  refine ⟨⟨fun a => C.av a ∨ x.F a, H1, C.E, fun a f => f.elim (fun f => .inl (C.sub a f)) .inr, fun a z => z.elim (fun z => (R.step m r).av z) (x.here rx)⟩, rfl, fun a => Iff.rfl,
    ⟨R.len, Mv.refl, ⟨r, rx, fun a f z => wd.here R.rel z (fr a f)⟩, fun i d e => ?_, fun i d e => (no i d e).elim, fun i j d e a h1 => (no i d h1).elim⟩, fun H2 m2 => R.ext.trans fun a o h => ?_⟩
  · obtain ⟨v, q, h⟩ := R.fz i d e
    refine ⟨v, q, h.mv fun a o h => ⟨fun nw => ⟨((m a o h).1 fun f => nw (.inl (C.sub a f))).1, ?_⟩, (m a o h).2⟩⟩
    rintro (z | ⟨j, d2, e2, _⟩)
    · rcases z with z | z
      · exact nw (.inl z)
      · rw [fr a z] at h; cases h
    · exact no j d2 e2
  · have nF : ¬ x.F a := fun z => by rw [fr a z] at h; cases h
    refine ⟨fun nf => ?_, fun e => (m2 a o ((m a o h).2 e)).2 e⟩
    have h1 := ((m a o h).1 nf).1
    exact ⟨((m2 a o h1).1 fun z => z.elim nf nF).1, nf⟩
/-- what the rest of a def tells, its further objects let go -/
def exitM (out : D → T → Option D) (m : M (S × T) Fl) (t : T) : M S Fl := fun s => match m (s, t) with
  | .ok (.rt d) (s', t') => match out d t' with
    | some z => .ok (.rt z) s'
    | none => .bad
  | _ => .bad
open Classical in
/-- what all places tell alike -/
noncomputable def pickM {α : Type} (F : ι → M S α) : M S α := fun s => if h : ∃ o, ∀ i, F i s = o then h.choose else .bad
theorem pick_at {α : Type} (F : ι → M S α) (s : S) (i : ι) : pickM F s = .bad ∨ pickM F s = F i s := by
  unfold pickM
  by_cases h : ∃ o, ∀ i, F i s = o
  · rw [dif_pos h]; exact .inr (h.choose_spec i).symm
  · rw [dif_neg h]; exact .inl rfl
theorem pick_eq {α : Type} {F : ι → M S α} {s : S} {o : Out S α} (i : ι) (h : ∀ i, F i s = o) : pickM F s = o := by
  have e : ∃ o, ∀ i, F i s = o := ⟨o, h⟩
  unfold pickM
  rw [dif_pos e, ← e.choose_spec i]
  exact h i
theorem exit_post {x : Exo T} {C' : Dc (wd.join x)} {Dn : Ends} {W0 W1 : Set'} {H0 H2 : Hp} {out : D → T → Option D} {m : M (S × T) Fl} (hmv : ∀ H2, Mv (wd.join x).foot C'.Hb (wd.join x).foot H2 → Mv wd.foot C.Hb wd.foot H2)
    (hout : ∀ d t z v H2, out d t = some z → x.rel t H2 → Rep g.K C'.av H2 d v → Rep g.K C.av H2 z v) (h : Post g C Dn W0 H0 (exitM out m t s)) : Post g C' Dn W1 H2 (m (s, t)) := by
  unfold exitM at h
  cases e : m (s, t) with
  | ok f st =>
    rw [e] at h
    cases f with
    | rt d =>
      dsimp only at h
      cases eo : out d st.2 with
      | none => rw [eo] at h; exact False.elim h
      | some z =>
        rw [eo] at h
        exact fun v H3 m3 r3 q3 => h v H3 (hmv _ m3) r3.1 (hout _ _ _ _ _ eo r3.2.1 q3)
    | nx e1 => exact False.elim h
    | bk e1 => exact False.elim h
    | ct e1 => exact False.elim h
  | ex c fs st => rw [e] at h; exact False.elim h
  | bad => rw [e] at h; exact False.elim h
/-- the slots without own objects -/
def clr1 : Sl → Sl
  | .ow _ => .no
  | x => x
def clr (env : List Sl) : List Sl := env.map clr1
theorem clr_ow (i : Nat) (d : D) : (clr env)[i]? ≠ some (.ow d) := fun e => by
  unfold clr at e
  rw [List.getElem?_map] at e
  obtain ⟨x, _, h⟩ := Option.map_eq_some_iff.mp e
  cases x <;> cases h
theorem clr_fz {i : Nat} {d : D} (e : (clr env)[i]? = some (.fz d)) : env[i]? = some (.fz d) := by
  unfold clr at e
  rw [List.getElem?_map] at e
  obtain ⟨x, hx, h⟩ := Option.map_eq_some_iff.mp e
  cases x <;> cases h
  exact hx
theorem RelE.clr (R : RelE g C env σ H s) : RelE g C (clr env) σ H s :=
  ⟨by unfold DD.clr; rw [List.length_map]; exact R.len, R.ext, R.rel, fun i d e => by
    obtain ⟨v, q, h⟩ := R.fz i d (clr_fz e)
    exact ⟨v, q, h.mv (Mv.sub fun a z => z.elim .inl fun ⟨j, d, e, _⟩ => (clr_ow j d e).elim)⟩, fun i d e => (clr_ow i d e).elim, fun i j d e a h => (clr_ow i d h).elim⟩
variable {X : Cx} {lv : Nat}
def lJ (g : Gx) (C : Dc wd) (x : ι → Exo T) (m : ι → En (S × T) Fl) : TS := fun Dn σ H => ∃ (i : ι) (C' : Dc (wd.join (x i))), C'.E = C.E ∧ lS g C' (m i) Dn σ H
theorem pss_join {x : ι → Exo T} {m : ι → En (S × T) Fl} {sts : List Stmt} (F : CF lv X C) (h : ∀ i (C' : Dc (wd.join (x i))), CF lv X C' → DSs X C' sts (m i)) : PSs X sts (lJ (gx X) C x m) :=
  ⟨fun pins s σ H D I ⟨i, C', e, q⟩ => (h i C' ⟨F.calm, F.nd, F.room, by have := F.tk; rwa [← e] at this, F.po⟩).run.run pins s σ H D I q⟩
end
end DD
/-! two sets of ints of a def: added to, asked, sorted -/
namespace DD
open PySem PySem.Spec PyProof.Rows L2
/-! ### strictly rising lists -/
def insI (k : Int) : List Int → List Int
  | [] => [k]
  | x :: l => if k < x then k :: x :: l else if k = x then x :: l else x :: insI k l
def sortI (l : List Int) : List Int := l.foldr insI []
theorem mem_insI {k j : Int} : ∀ {l : List Int}, j ∈ insI k l ↔ j = k ∨ j ∈ l
  | [] => by simp [insI]
  | x :: l => by
    unfold insI
    split
    · simp
    · split
      · rename_i e; subst e; simp
      · simp only [List.mem_cons, mem_insI (l := l)]
        constructor
        · rintro (h | h | h)
          · exact .inr (.inl h)
          · exact .inl h
          · exact .inr (.inr h)
        · rintro (h | h | h)
          · exact .inr (.inl h)
          · exact .inl h
          · exact .inr (.inr h)
theorem mem_sortI {j : Int} : ∀ {l : List Int}, j ∈ sortI l ↔ j ∈ l
  | [] => by simp [sortI]
  | x :: l => by
    show j ∈ insI x (sortI l) ↔ _
    rw [mem_insI, mem_sortI (l := l), List.mem_cons]
theorem up_insI {k : Int} : ∀ {l : List Int}, l.Pairwise (· < ·) → (insI k l).Pairwise (· < ·)
  | [], _ => by simp [insI]
  | x :: l, h => by
    obtain ⟨h1, h2⟩ := List.pairwise_cons.mp h
    unfold insI
    split
    · rename_i lt
      refine List.pairwise_cons.mpr ⟨fun y hy => ?_, h⟩
      rcases List.mem_cons.mp hy with e | hy
      · rw [e]; exact lt
      · exact Int.lt_trans lt (h1 y hy)
    · split
      · exact h
      · refine List.pairwise_cons.mpr ⟨fun y hy => ?_, up_insI h2⟩
        rcases mem_insI.mp hy with e | hy
        · omega
        · exact h1 y hy
theorem up_sortI : ∀ {l : List Int}, (sortI l).Pairwise (· < ·)
  | [] => List.Pairwise.nil
  | x :: l => up_insI (up_sortI (l := l))
theorem up_unique : ∀ {a b : List Int}, a.Pairwise (· < ·) → b.Pairwise (· < ·) → (∀ k, k ∈ a ↔ k ∈ b) → a = b
  | [], [], _, _, _ => rfl
  | [], y :: b, _, _, h => by have := (h y).mpr List.mem_cons_self; cases this
  | x :: a, [], _, _, h => by have := (h x).mp List.mem_cons_self; cases this
  | x :: a, y :: b, h1, h2, h => by
    obtain ⟨p1, p2⟩ := List.pairwise_cons.mp h1
    obtain ⟨q1, q2⟩ := List.pairwise_cons.mp h2
    have e : x = y := by
      have hx := (h x).mp List.mem_cons_self
      have hy := (h y).mpr List.mem_cons_self
      rcases List.mem_cons.mp hx with e | hx
      · exact e
      · rcases List.mem_cons.mp hy with e | hy
        · exact e.symm
        · have := q1 x hx; have := p1 y hy; omega
    subst e
    rw [up_unique p2 q2 fun k => ⟨fun hk => ?_, fun hk => ?_⟩]
    · rcases List.mem_cons.mp ((h k).mp (List.mem_cons_of_mem _ hk)) with e | z
      · have := p1 k hk; omega
      · exact z
    · rcases List.mem_cons.mp ((h k).mpr (List.mem_cons_of_mem _ hk)) with e | z
      · have := q1 k hk; omega
      · exact z
/-! ### the two sets -/
abbrev TI2 := List Int × List Int
def setB (w : World) (a : Addr) (l : List Int) : HO := SetO w a (fun k => decide (k ∈ l)) l.length
def addI (l : List Int) (k : Int) : List Int := if k ∈ l then l else l ++ [k]
theorem setB_add (w : World) (a : Addr) (l : List Int) (k : Int) : SetO w a (fun j => decide (j ∈ l) || decide (j = k)) (if decide (k ∈ l) = true then l.length else l.length + 1) = setB w a (addI l k) := by
  unfold setB addI
  by_cases h : k ∈ l
  · rw [if_pos (decide_eq_true h), if_pos h]
    congr 1
    funext j
    by_cases e : j = k
    · subst e; simp [h]
    · simp [e]
  · rw [if_neg (by rw [decide_eq_true_iff]; exact h), if_neg h]
    congr 1
    · funext j
      simp
    · simp
def exS (w : World) (i : Addr × Addr) : Exo TI2 where
  F := fun a => a = i.1 ∨ a = i.2
  rel := fun t H => H i.1 = some (setB w i.1 t.1) ∧ H i.2 = some (setB w i.2 t.2) ∧ i.1 ≠ i.2
  loc := fun ⟨h1, h2, h3⟩ e => ⟨(e _ (.inl rfl)).trans h1, (e _ (.inr rfl)).trans h2, h3⟩
  here := fun {t H a} ⟨h1, h2, h3⟩ f z => by
    rcases f with rfl | rfl
    · rw [z] at h1; cases h1
    · rw [z] at h2; cases h2
  flat := fun {t H a o} ⟨h1, h2, h3⟩ f z => by
    rcases f with rfl | rfl
    · rw [z] at h1; cases h1; rfl
    · rw [z] at h2; cases h2; rfl
section
variable {S : Type} {wd : Wd S} {X : Cx} {i : Addr × Addr} {C : Dc (wd.join (exS X.w i))} {C0 : Dc wd} {al bl : List Nat} {e : Expr} {es : List Expr} {me : En (S × TI2) D} {pos p : Pos} {n : Nat} {x y : Str} {lv : Nat}
def addO (i : Addr × Addr) (v : V) (k : Int) (env : List Sl) : M (S × TI2) Fl := fun s =>
  if v = .ref i.1 then (if s.2.1.length < 4000 then .ok (.nx env) (s.1, (addI s.2.1 k, s.2.2)) else .bad)
  else if v = .ref i.2 then (if s.2.2.length < 4000 then .ok (.nx env) (s.1, (s.2.1, addI s.2.2 k)) else .bad) else .bad
def sAddO (i : Addr × Addr) (n : Nat) (me : En (S × TI2) D) : En (S × TI2) Fl := fun env => match env[n]? with
  | some (.fz (.opq v)) => if v = .ref i.1 ∨ v = .ref i.2 then M.bind (me env) fun d => match d with
    | .int k => addO i v k env
    | _ => M.fail
    else M.fail
  | _ => M.fail
theorem ds_addO {p1 p2 cpos : Pos} (he : DE X C e al me) (hN : X.N[n]? = some x := by rfl) (hv : Vis X.env.scope x := by first | exact Or.inl rfl | exact Or.inr (Or.inl rfl))
    (hd : (x == ("__debug__" : Str)) = false := by decide +kernel) (hcd : (x == ("__classdict__" : Str)) = false := by decide +kernel)
    (hbase : attributeBase (.Name x p1) "add" X.env (eval (.Name x p1) X.env) = eval (.Name x p1) X.env := by rfl)
    (hfew : ((backTo cpos (starEach [e] X.env)).all (fun x => !x.1) && (backToKw cpos (keywordEach [] X.env)).all (fun x => x.1.isSome) && decide ([e].length + ([] : List Keyword).length + (if ([] : List Keyword).isEmpty then 0 else 1) < 30)) = true := by rfl)
    (hline : (p2.endLine == cpos.line) = true := by rfl) (hs : starEach [e] X.env = (false, eval e X.env) :: starEach [] X.env := by rfl) (hplain : (backTo cpos (starEach [] X.env)).any (·.1) = false := by rfl)
    (hsw : swapsWith (.Call (.Attribute (.Name x p1) "add" p2) [e] [] cpos) none pos.line X.env = pure false := by rfl) :
    DS X C (.Expr (.Call (.Attribute (.Name x p1) "add" p2) [e] [] cpos) pos) (sAddO i n me) := by
  refine ⟨PS_imp (ps_expr (pe_sadd (pe_var hN hv hd hcd) (pa_cons he.run pa_nil hs) hbase hfew hline hs hplain) hsw) fun Dn σ H ⟨env, s, R, h⟩ => ?_⟩
  unfold sAddO at h
  cases ei : env[n]? with
  | none => rw [ei] at h; exact False.elim h
  | some sl =>
    rw [ei] at h
    cases sl with
    | no => exact False.elim h
    | ow d => exact False.elim h
    | fz dl =>
      cases dl with
      | opq v =>
        obtain ⟨u, qu, hu⟩ := R.fz n _ ei
        simp only [Rep] at hu
        subst hu
        dsimp only at h
        by_cases hor : u = .ref i.1 ∨ u = .ref i.2
        · rw [if_pos hor] at h
          have ht := R.rel.2.1
          refine ⟨_, qu, ?_, env, s, R, bindE R famP h fun d s1 y H1 R1 m1 q h1 => ?_⟩
          · rcases hor with rfl | rfl
            · exact ⟨_, _, _, rfl, ht.1⟩
            · exact ⟨_, _, _, rfl, ht.2.1⟩
          · cases d with
            | int k =>
              simp only [Rep] at q
              subst q
              obtain ⟨r0, ⟨t1, t2, ne⟩, sp⟩ := R1.rel
              have fin : ∀ (A : Addr) (l : List Int) s', (wd.join (exS X.w i)).foot A → H1 A = some (setB X.w A l) → l.length < 4000 → (wd.join (exS X.w i)).rel s' (L2.upd H1 A (setB X.w A (addI l k))) → Post (gx X) C Dn (Ow C env σ []) H (.ok (.nx env) s') → rSAdd X.w (.ref A) [.int k] H1 fun _ H3 => Dn.nx σ H3 := fun A l s' fA eA hl r h => by
                refine ⟨A, k, _, _, rfl, rfl, eA, by unfold scanBound; omega, ?_⟩
                rw [setB_add]
                have m3 : Ext C H1 (L2.upd H1 A (setB X.w A (addI l k))) := Mv.wr eA rfl fA
                exact h σ _ (R1.step m3 r) (Ext.ow R (m1.trans m3))
              dsimp only [addO] at h1
              by_cases e1 : u = .ref i.1
              · subst e1
                rw [if_pos rfl] at h1
                by_cases hl : s1.2.1.length < 4000
                · rw [if_pos hl] at h1
                  exact fin i.1 _ (s1.1, (addI s1.2.1 k, s1.2.2)) (.inr (.inl rfl)) t1 hl ⟨wd.loc r0 fun a f => upd_ne fun z => sp a (.inl z) f, ⟨upd_same, by rw [upd_ne (Ne.symm ne)]; exact t2, ne⟩, sp⟩ h1
                · rw [if_neg hl] at h1; exact False.elim h1
              · rw [if_neg e1] at h1
                by_cases e2 : u = .ref i.2
                · subst e2
                  rw [if_pos rfl] at h1
                  by_cases hl : s1.2.2.length < 4000
                  · rw [if_pos hl] at h1
                    exact fin i.2 _ (s1.1, (s1.2.1, addI s1.2.2 k)) (.inr (.inr rfl)) t2 hl ⟨wd.loc r0 fun a f => upd_ne fun z => sp a (.inr z) f, ⟨by rw [upd_ne ne]; exact t1, upd_same, ne⟩, sp⟩ h1
                  · rw [if_neg hl] at h1; exact False.elim h1
                · rw [if_neg e2] at h1; exact False.elim h1
            | _ => exact False.elim h1
        · rw [if_neg hor] at h; exact False.elim h
      | _ => exact False.elim h
/-! sorted(added) -/
def sortO (i : Addr × Addr) (d : D) : M (S × TI2) D := fun s => match d with
  | .opq v => if v = .ref i.1 then (if s.2.1.length < 64 then .ok (.lst ((sortI s.2.1).map .int)) s else .bad) else .bad
  | _ => .bad
def eSortO (i : Addr × Addr) (me : En (S × TI2) D) : En (S × TI2) D := fun env => M.bind (me env) fun d => sortO i d
theorem reps_intsL {K : PySem.W.Frag} {W : Set'} {H : Hp} : ∀ l : List Int, Reps K W H (l.map .int) (l.map V.int)
  | [] => .nil
  | k :: l => .cons (by simp only [Rep]) (reps_intsL l)
theorem de_sortO (hc : X.calm = true) (hm : X.mg "sorted" = none) (he : DE X C e al me) (hg : Gl X "sorted" := by rfl)
    (hs : starEach [e] X.env = (false, eval e X.env) :: starEach [] X.env := by rfl) (hpl : (backTo pos (starEach [] X.env)).any (·.1) = false := by rfl) : DE X C (.Call (.Name "sorted" p) [e] [] pos) [] (eSortO i me) := by
  refine ⟨PE_imp (pe_callB (cr_sortedSet hc) hg hm (by decide +kernel) (pa_cons he.run pa_nil hs) (by decide +kernel) (by decide +kernel) hs hpl) fun σ H Q ⟨env, s, R, h⟩ => ?_⟩
  unfold eSortO at h
  refine ⟨env, s, R, bindE R famE h fun d s1 v H1 R1 m1 q1 h1 => ?_⟩
  unfold sortO at h1
  split at h1
  · rename_i w
    simp only [Rep] at q1
    subst q1
    obtain ⟨r0, ⟨t1, t2, ne⟩, sp⟩ := R1.rel
    split at h1
    · rename_i e1
      subst e1
      split at h1
      · rename_i hl
        refine ⟨i.1, _, _, rfl, t1, hl, fun ns p up mem _ hp => ?_⟩
        have e : ns = sortI s1.2.1 := up_unique up up_sortI fun k => by rw [mem k, mem_sortI, decide_eq_true_iff]
        subst e
        obtain ⟨m4, r4⟩ := (wd.join (exS X.w i)).laid (o := .lst ((sortI s1.2.1).map V.int)) R1.rel hp
        refine h1 _ _ m4 r4 ?_
        simp only [Rep]
        exact ⟨p, _, rfl, ⟨upd_same, R1.new hp⟩, reps_intsL _⟩
      · exact False.elim h1
    · exact False.elim h1
  · exact False.elim h1
/-! k not in dropped -/
def notInO (i : Addr × Addr) (v : V) (k : Int) : M (S × TI2) Bool := fun s => if v = .ref i.1 then .ok (!decide (k ∈ s.2.1)) s else if v = .ref i.2 then .ok (!decide (k ∈ s.2.2)) s else .bad
def tNotInO (i : Addr × Addr) (n : Nat) (me : En (S × TI2) D) : En (S × TI2) Bool := fun env => M.bind (me env) fun d => match d with
  | .int k => match env[n]? with
    | some (.fz (.opq v)) => notInO i v k
    | _ => M.fail
  | _ => M.fail
theorem dt_notInO (he : DE X C e al me) (hN : X.N[n]? = some x := by rfl) (hv : Vis X.env.scope x := by first | exact Or.inl rfl | exact Or.inr (Or.inl rfl) | exact Or.inr (Or.inr rfl)) (hd : (x == ("__debug__" : Str)) = false := by decide +kernel) (hcd : (x == ("__classdict__" : Str)) = false := by decide +kernel)
    (hb : behindInMarks .NotIn (.Name x p) = false := by rfl) : DT X C (.Compare e [.NotIn] [.Name x p] pos) (tNotInO i n me) := by
  refine ⟨PT_imp (pt_cmpR or_snotin he.run (pe_var hN hv hd hcd) hb) fun σ H Q ⟨env, s, R, h⟩ => ?_⟩
  unfold tNotInO at h
  refine ⟨env, s, R, bindE R famT h fun d s1 v H1 R1 m1 q1 h1 => ?_⟩
  cases d with
  | int k =>
    simp only [Rep] at q1
    subst q1
    dsimp only at h1
    cases ei : env[n]? with
    | none => rw [ei] at h1; exact False.elim h1
    | some sl =>
      rw [ei] at h1
      cases sl with
      | no => exact False.elim h1
      | ow d => exact False.elim h1
      | fz dl =>
        cases dl with
        | opq w =>
          obtain ⟨u, qu, hu⟩ := R1.fz n _ ei
          simp only [Rep] at hu
          subst hu
          obtain ⟨r0, ⟨t1, t2, ne⟩, sp⟩ := R1.rel
          dsimp only [notInO] at h1
          by_cases e1 : u = .ref i.1
          · subst e1
            rw [if_pos rfl] at h1
            exact ⟨_, qu, k, i.1, _, _, rfl, rfl, t1, _, rfl, h1 H1 Mv.refl R1.rel⟩
          · rw [if_neg e1] at h1
            by_cases e2 : u = .ref i.2
            · subst e2
              rw [if_pos rfl] at h1
              exact ⟨_, qu, k, i.2, _, _, rfl, rfl, t2, _, rfl, h1 H1 Mv.refl R1.rel⟩
            · rw [if_neg e2] at h1; exact False.elim h1
        | _ => exact False.elim h1
  | _ => exact False.elim h1
end
/-! added = set(); dropped = set(); .. -/
section
variable {S : Type} {wd : Wd S} {X : Cx} {C : Dc wd} {x y : Str} {lv n k : Nat} {m : Addr × Addr → En (S × TI2) Fl} {rest : List Stmt}
/-- two places apart -/
abbrev Ap := {i : Addr × Addr // i.1 ≠ i.2}
noncomputable def sSets (n k : Nat) (m : Addr × Addr → En (S × TI2) Fl) : En S Fl := fun env => pickM fun i : Ap => exitM (fun d _ => some d) (m i.1 (((clr env).set n (.fz (.opq (.ref i.1.1)))).set k (.fz (.opq (.ref i.1.2))))) ([], [])
theorem dss_sets {py1 py2 p1 p2 c1 c2 pos1 pos2 : Pos} (F : CF lv X C) (hm : X.mg "set" = none) (hb : ∀ i (C' : Dc (wd.join (exS X.w i))), CF lv X C' → DSs X C' rest (m i)) (hg : Gl X "set" := by rfl)
    (hi : X.N[n]? = some x := by rfl) (hx : Loc X.env.scope x := by first | exact Or.inl rfl | exact Or.inr rfl) (hs : swapsWith (.Call (.Name "set" p1) [] [] c1) (some (.Name x py1)) pos1.line X.env = pure false := by rfl)
    (hf : X.fn x = true ∨ X.env.scope.names.lookup x = some .local := by first | exact .inl rfl | exact .inr rfl)
    (hi2 : X.N[k]? = some y := by rfl) (hx2 : Loc X.env.scope y := by first | exact Or.inl rfl | exact Or.inr rfl) (hs2 : swapsWith (.Call (.Name "set" p2) [] [] c2) (some (.Name y py2)) pos2.line X.env = pure false := by rfl)
    (hf2 : X.fn y = true ∨ X.env.scope.names.lookup y = some .local := by first | exact .inl rfl | exact .inr rfl) :
    DSs X C (.Assign [.Name x py1] (.Call (.Name "set" p1) [] [] c1) pos1 :: .Assign [.Name y py2] (.Call (.Name "set" p2) [] [] c2) pos2 :: rest) (sSets n k m) := by
  refine ⟨PSs_imp (pss_cons (ps_set F.nd hi hx (pe_callTy0 cr_set0 hg hm (by decide +kernel) (by decide +kernel) (by decide +kernel)) hs hf)
    (pss_cons (ps_set F.nd hi2 hx2 (pe_callTy0 cr_set0 hg hm (by decide +kernel) (by decide +kernel) (by decide +kernel)) hs2 hf2) (pss_join (x := fun i : Ap => exS X.w i.1) F fun i C' F' => hb i.1 C' F'))) fun Dn σ H ⟨env, s, R, h⟩ => ?_⟩
  unfold sSets at h
  refine ⟨rfl, fun p hp => ⟨rfl, fun q hq => ?_⟩⟩
  have hne : p ≠ q := fun z => by rw [z, upd_same] at hq; cases hq
  have hq0 : H q = none := by rw [upd_ne (Ne.symm hne)] at hq; exact hq
  have e0 : ∀ a, SetO X.w a (fun _ => false) 0 = setB X.w a [] := fun a => by unfold setB; simp
  obtain ⟨m1, r1⟩ := wd.laid (o := SetO X.w p (fun _ => false) 0) R.rel hp
  obtain ⟨m2, r2⟩ := wd.laid (o := SetO X.w q (fun _ => false) 0) r1 hq
  obtain ⟨C', e, av, R', mv⟩ := join_rel (x := exS X.w (p, q)) (t := ([], [])) R.clr clr_ow (m1.trans m2) (fun a f => f.elim (fun z => z ▸ hp) (fun z => z ▸ hq0)) r2
    ⟨by rw [upd_ne hne, upd_same, e0], by rw [upd_same, e0], hne⟩
  refine ⟨⟨(p, q), hne⟩, C', e, _, (s, ([], [])), (R'.setfz (i := n) (d := .opq (.ref p)) (v := .ref p) (by simp only [Rep])).setfz (i := k) (d := .opq (.ref q)) (v := .ref q) (by simp only [Rep]), ?_⟩
  rcases pick_at (fun i : Ap => exitM (fun d _ => some d) (m i.1 (((clr env).set n (.fz (.opq (.ref i.1.1)))).set k (.fz (.opq (.ref i.1.2))))) ([], [])) s ⟨(p, q), hne⟩ with z | z
  · rw [z] at h; exact False.elim h
  · rw [z] at h
    exact exit_post mv (fun d t z v H3 e1 _ q => by cases e1; exact q.mv (Mv.sub fun a h => (av a).mpr (.inl h))) h
end
end DD
/-! a table (a list of lists of ints) that a def makes, reads and changes in place; range of three -/
namespace DD
open PySem PySem.Spec PyProof.Rows L2
/-! ### range(i, j, -1) -/
section
variable {S : Type} {wd : Wd S} {X : Cx} {C : Dc wd} {a b c tg : Expr} {al bl : List Nat} {ma mb : En S D} {mr : En S (List D)} {pos p : Pos}
def dnD (lo : Int) (n : Nat) : List D := (List.range n).map fun i => .int (lo - (i : Nat))
theorem it_dn {g : Gx} {lo : Int} {n : Nat} : ItD g wd false (Itc lo (-1) n) (fun _ _ => True) (dnD lo n) where
  mv := fun _ _ => trivial
  go := fun {W H i} _ h => show i < n by simpa [dnD] using h
  stop := fun _ h => by
    subst h
    show n ≤ _
    simp [dnD]
  yld := fun {W H i x H' d s} _ r _ _ e y => by
    obtain ⟨rfl, rfl⟩ := y
    refine ⟨Mv.refl, r, ?_⟩
    simp only [dnD, List.getElem?_map, Option.map_eq_some_iff] at e
    obtain ⟨k, ek, rfl⟩ := e
    obtain ⟨hk, ek⟩ := List.getElem?_eq_some_iff.mp ek
    simp at ek
    subst ek
    show Rep _ _ _ _ _
    simp only [Rep]
    congr 1
    omega
def dRng3 : List D → Option (List D)
  | [.int i, .int j, .int c] => if c = -1 ∧ i.natAbs ≤ 16777216 ∧ j.natAbs ≤ 16777216 then some (dnD i (i - j).toNat) else none
  | _ => none
theorem di_range3 (hm : X.mg "range" = none) (ha : DA X C [a, b, c] al mr) (hg : Gl X "range" := by rfl) (hs : starEach [a, b, c] X.env = (false, eval a X.env) :: starEach [b, c] X.env := by rfl) (hpl : (backTo pos (starEach [b, c] X.env)).any (·.1) = false := by rfl) :
    DI X C false tg (.Call (.Name "range" p) [a, b, c] [] pos) [] (iOf dRng3 mr) := by
  refine ⟨PI_imp (pi_range3 hg hm ha.run hs hpl) fun σ H Q ⟨env, s, R, h⟩ => ?_⟩
  unfold iOf at h
  refine ⟨env, s, R, bindA R famI h fun ds s1 xs H1 R1 m1 q1 h1 => ?_⟩
  cases ed : dRng3 ds with
  | none => rw [ed] at h1; exact False.elim h1
  | some z =>
    rw [ed] at h1
    unfold dRng3 at ed
    split at ed
    · rename_i i j c
      split at ed
      · rename_i hj
        cases ed
        obtain ⟨rfl, hi, hj⟩ := hj
        simp only [Reps, Rep] at q1
        obtain ⟨_, _, rfl, rfl, _, _, rfl, rfl, _, _, rfl, rfl, rfl⟩ := q1
        exact ⟨i, j, -1, (i - j).toNat, rfl, RgC.neg (by omega) (by omega) (by omega) (by omega), h1 _ _ H1 Mv.refl R1.rel it_dn trivial⟩
      · cases ed
    · cases ed
/-! ### [..] * k, a new list -/
def eRepL (ma mb : En S D) : En S D := fun env => M.bind (ma env) fun d => match d with
  | .lst l => M.bind (mb env) fun e => match e with
    | .int k => if 0 ≤ k ∧ k.toNat ≤ 1000000 ∧ l.length ≤ 16 then M.ret (.lst (List.replicate k.toNat l).flatten) else M.fail
    | _ => M.fail
  | _ => M.fail
theorem df_repL (ha : DE X C a al ma) (hb : DE X C b bl mb) : DF X C (.BinOp a .Mult b pos) al (eRepL ma mb) := by
  refine ⟨PE_imp (pe_op op_rep ha.run hb.run) fun σ H Q ⟨env, s, R, h⟩ => ?_⟩
  unfold eRepL at h
  refine ⟨env, s, R, bindE R famF h fun d s1 x H1 R1 m1 q1 h1 => ?_⟩
  cases d with
  | lst l =>
    refine ⟨env, s1, R1, bindE R1 famF h1 fun e s2 y H2 R2 m2 q2 h2 => ?_⟩
    cases e with
    | int k =>
      dsimp only at h2
      by_cases hk : 0 ≤ k ∧ k.toNat ≤ 1000000 ∧ l.length ≤ 16
      · rw [if_pos hk] at h2
        have q1 := q1.mv (Ext.ow R1 m2)
        simp only [Rep] at q1 q2
        subst q2
        obtain ⟨b, xs, rfl, t, r⟩ := q1
        have hx := r.length
        refine ⟨b, k, xs, rfl, rfl, t.1, by omega, by omega, ?_, fun q hq => ?_⟩
        · rw [sizeLine_eq, hx]
          have : l.length * k.toNat ≤ 16 * 1000000 := Nat.mul_le_mul hk.2.2 (by omega)
          omega
        · obtain ⟨m4, r4⟩ := wd.laid (o := .lst (List.replicate k.toNat xs).flatten) R2.rel hq
          exact h2 _ _ m4 r4 hq ⟨_, upd_same, ((r.rep k.toNat).mv (Mv.new hq))⟩
      · rw [if_neg hk] at h2; exact False.elim h2
    | _ => exact False.elim h2
  | _ => exact False.elim h1
end
/-! ### the table -/
abbrev TT2 := List (List Int)
abbrev Pl := Addr × List Addr
structure TabAt (H : Hp) (i : Pl) (t : TT2) : Prop where
  top : H i.1 = some (.lst (i.2.map V.ref))
  len : i.2.length = t.length
  nd : i.2.Nodup
  out : i.1 ∉ i.2
  row : ∀ (k : Nat) b r, i.2[k]? = some b → t[k]? = some r → H b = some (.lst (r.map V.int))
theorem TabAt.rowAt {H : Hp} {i : Pl} {t : TT2} (h : TabAt H i t) {b : Addr} (hb : b ∈ i.2) : ∃ (k : Nat) (r : List Int), i.2[k]? = some b ∧ t[k]? = some r ∧ H b = some (.lst (r.map V.int)) := by
  obtain ⟨k, hk⟩ := List.mem_iff_getElem?.mp hb
  have hl := (List.getElem?_eq_some_iff.mp hk).1
  rw [h.len] at hl
  exact ⟨k, _, hk, List.getElem?_eq_getElem hl, h.row k b _ hk (List.getElem?_eq_getElem hl)⟩
def exT (i : Pl) : Exo TT2 where
  F := fun a => a = i.1 ∨ a ∈ i.2
  rel := fun t H => TabAt H i t
  loc := fun h e => ⟨(e _ (.inl rfl)).trans h.top, h.len, h.nd, h.out, fun k b r h1 h2 => (e b (.inr (List.mem_of_getElem? h1))).trans (h.row k b r h1 h2)⟩
  here := fun {t H a} h f z => by
    rcases f with rfl | f
    · have := h.top; rw [z] at this; cases this
    · obtain ⟨_, _, _, _, e⟩ := h.rowAt f; rw [z] at e; cases e
  flat := fun {t H a o} h f z => by
    rcases f with rfl | f
    · have := h.top; rw [z] at this; cases this; rfl
    · obtain ⟨_, _, _, _, e⟩ := h.rowAt f; rw [z] at e; cases e; rfl
/-- one entry of the table is changed -/
theorem TabAt.put {H : Hp} {i : Pl} {t : TT2} (h : TabAt H i t) {k l : Nat} {b : Addr} {r : List Int} {c : Int} (h1 : i.2[k]? = some b) (h2 : t[k]? = some r) : TabAt (upd H b (.lst ((r.set l c).map V.int))) i (t.set k (r.set l c)) := by
  have hb := List.mem_of_getElem? h1
  refine ⟨by rw [upd_ne (show i.1 ≠ b from fun z => h.out (by rw [z]; exact hb))]; exact h.top, by rw [List.length_set]; exact h.len, h.nd, h.out, fun k' b' r' e1 e2 => ?_⟩
  by_cases e : k = k'
  · subst e
    rw [h1] at e1
    cases e1
    rw [List.getElem?_set_self (List.getElem?_eq_some_iff.mp h2).1] at e2
    cases e2
    exact upd_same
  · rw [List.getElem?_set_ne e] at e2
    have ne : b' ≠ b := fun z => e ((List.getElem?_inj (List.getElem?_eq_some_iff.mp h1).1 h.nd).mp (by rw [h1, e1, z]))
    rw [upd_ne ne]
    exact h.row k' b' r' e1 e2
section
variable {S : Type} {wd : Wd S} {X : Cx} {i : Pl} {C : Dc (wd.join (exT i))} {al bl cl : List Nat} {e e1 e2 : Expr} {me m1 m2 : En (S × TT2) D} {pos p p1 p2 : Pos} {n : Nat} {x : Str}
def chkT (d : D) : M (S × TT2) Unit := fun s => match d with
  | .int j => if (ixN s.2.length j).isSome = true then .ok () s else .bad
  | _ => .bad
def getT (d1 d2 : D) : M (S × TT2) D := fun s => match d1, d2 with
  | .int j, .int k => match atI s.2 j with
    | some r => match atI r k with
      | some c => .ok (.int c) s
      | none => .bad
    | none => .bad
  | _, _ => .bad
def isTab (i : Pl) (n : Nat) (env : List Sl) : Prop := env[n]? = some (.fz (.opq (.ref i.1)))
open Classical in
noncomputable def eTab2 (i : Pl) (n : Nat) (m1 m2 : En (S × TT2) D) : En (S × TT2) D := fun env => if isTab i n env then M.bind (m1 env) fun d1 => M.bind (chkT d1) fun _ => M.bind (m2 env) fun d2 => getT d1 d2 else M.fail
theorem chk_ok {β : Type} {d : D} {f : Unit → M (S × TT2) β} {s : S × TT2} (h : M.bind (chkT d) f s ≠ .bad) : ∃ j, d = .int j ∧ (ixN s.2.length j).isSome = true ∧ M.bind (chkT d) f s = f () s := by
  unfold M.bind chkT at h ⊢
  cases d with
  | int j =>
    dsimp only at h ⊢
    by_cases c : (ixN s.2.length j).isSome = true
    · rw [if_pos c]; exact ⟨j, rfl, c, rfl⟩
    · rw [if_neg c] at h; exact (h rfl).elim
  | _ => exact (h rfl).elim
theorem at_row {H : Hp} {t : TT2} (h : TabAt H i t) {j : Int} (hj : (ixN t.length j).isSome = true) : ∃ (k : Nat) (b : Addr) (r : List Int), ixN t.length j = some k ∧ i.2[k]? = some b ∧ t[k]? = some r ∧ atI (i.2.map V.ref) j = some (.ref b) ∧ atI t j = some r ∧ H b = some (.lst (r.map V.int)) := by
  obtain ⟨k, hk⟩ := Option.isSome_iff_exists.mp hj
  have hl : k < t.length := (ixN_seq hk).2.1
  have hl2 : k < i.2.length := by rw [h.len]; exact hl
  have hb : i.2[k]? = some i.2[k] := List.getElem?_eq_getElem hl2
  have hr : t[k]? = some t[k] := List.getElem?_eq_getElem hl
  refine ⟨k, _, _, hk, hb, hr, ?_, ?_, h.row k _ _ hb hr⟩
  · unfold atI
    rw [List.length_map, h.len, hk]
    show (i.2.map V.ref)[k]? = _
    rw [List.getElem?_map, hb]
    rfl
  · unfold atI
    rw [hk]
    exact hr
theorem resE_bad {W : Set'} {H : Hp} {o : Out (S × TT2) D} {Q : VK} (h : ResE (gx X) C W H o Q) : o ≠ .bad := fun z => by rw [z] at h; exact h
theorem post_bad {Dn : Ends} {W : Set'} {H : Hp} {o : Out (S × TT2) Fl} (h : Post (gx X) C Dn W H o) : o ≠ .bad := fun z => by rw [z] at h; exact h
theorem de_tab2 (h1 : DE X C e1 al m1) (h2 : DE X C e2 bl m2) (hs1 : PlainIx e1) (hs2 : PlainIx e2) (hN : X.N[n]? = some x := by rfl) (hv : Vis X.env.scope x := by first | exact Or.inl rfl | exact Or.inr (Or.inl rfl) | exact Or.inr (Or.inr rfl))
    (hd : (x == ("__debug__" : Str)) = false := by decide +kernel) (hcd : (x == ("__classdict__" : Str)) = false := by decide +kernel) : DE X C (.Subscript (.Subscript (.Name x p) e1 p1) e2 p2) [] (eTab2 i n m1 m2) := by
  refine ⟨PE_imp (pe_ix ix_seq (pe_ix ix_seq (pe_var hN hv hd hcd) h1.run hs1) h2.run hs2) fun σ H Q ⟨env, s, R, h⟩ => ?_⟩
  unfold eTab2 at h
  by_cases it : isTab i n env
  · rw [if_pos it] at h
    obtain ⟨u, qu, hu⟩ := R.fz n _ it
    simp only [Rep] at hu
    subst hu
    refine ⟨_, qu, env, s, R, bindE R famE h fun d1 s1 v1 H1 R1 m1' q1 h1' => ?_⟩
    obtain ⟨j, rfl, hj, ec⟩ := chk_ok (resE_bad h1')
    rw [ec] at h1'
    simp only [Rep] at q1
    subst q1
    obtain ⟨r0, t1, sp⟩ := R1.rel
    obtain ⟨k, b, r, hk, hb, hr, ha, hat, hH⟩ := at_row t1 hj
    refine .inl ⟨i.1, _, j, _, rfl, rfl, .inl (.inl t1.top), ha, env, s1, R1, bindE R1 famE h1' fun d2 s2 v2 H2 R2 m2' q2 h2' => ?_⟩
    unfold getT at h2'
    cases d2 with
    | int l =>
      simp only [Rep] at q2
      subst q2
      obtain ⟨r0', t2, sp'⟩ := R2.rel
      have hl : s2.2.length = s1.2.length := by rw [← t2.len, t1.len]
      obtain ⟨k', b', r', hk', hb', hr', ha', hat', hH'⟩ := at_row t2 (j := j) (by rw [hl]; exact hj)
      rw [hl, hk] at hk'
      cases hk'
      rw [hb] at hb'
      cases hb'
      dsimp only at h2'
      rw [hat'] at h2'
      dsimp only at h2'
      cases el : atI r' l with
      | none => rw [el] at h2'; exact False.elim h2'
      | some c =>
        rw [el] at h2'
        exact .inl ⟨b, _, l, _, rfl, rfl, .inl (.inl hH'), atI_map el, h2' _ H2 Mv.refl R2.rel (by simp only [Rep])⟩
    | _ => exact False.elim h2'
  · rw [if_neg it] at h; exact False.elim h
/-! table[e1][e2] = e -/
def putTb (d1 d2 d : D) (env : List Sl) : M (S × TT2) Fl := fun s => match d1, d2, d with
  | .int j, .int l, .int c => match ixN s.2.length j with
    | some k => match s.2[k]? with
      | some r => match ixN r.length l with
        | some q => .ok (.nx env) (s.1, s.2.set k (r.set q c))
        | none => .bad
      | none => .bad
    | none => .bad
  | _, _, _ => .bad
open Classical in
noncomputable def sTab2 (i : Pl) (n : Nat) (me m1 m2 : En (S × TT2) D) : En (S × TT2) Fl := fun env => if isTab i n env then M.bind (me env) fun d => M.bind (m1 env) fun d1 => M.bind (chkT d1) fun _ => M.bind (m2 env) fun d2 => putTb d1 d2 d env else M.fail
theorem ds_tab2 (he : DE X C e al me) (h1 : DE X C e1 bl m1) (h2 : DE X C e2 cl m2) (hs1 : PlainIx e1) (hN : X.N[n]? = some x := by rfl) (hv : Vis X.env.scope x := by first | exact Or.inl rfl | exact Or.inr (Or.inl rfl))
    (hd : (x == ("__debug__" : Str)) = false := by decide +kernel) (hcd : (x == ("__classdict__" : Str)) = false := by decide +kernel)
    (ha : ∀ v, assign (.Subscript (.Subscript (.Name x p) e1 p1) e2 p2) X.env v = (do
      let ov ← holding [v] (eval (.Subscript (.Name x p) e1 p1) X.env)
      let iv ← holding [v, ov] (eval e2 X.env)
      standAt p2
      holding [v, ov, iv] (setItem ov iv v)
      release [v, ov, iv] []) := by intro _; rfl)
    (hs : swapsWithSole [.Subscript (.Subscript (.Name x p) e1 p1) e2 p2] e pos.line X.env = pure false := by rfl) (hw : swappedStores [.Subscript (.Subscript (.Name x p) e1 p1) e2 p2] e X.env = pure none := by rfl)
    (hq : (assignEach [.Subscript (.Subscript (.Name x p) e1 p1) e2 p2] X.env).map (·.2) = [assign (.Subscript (.Subscript (.Name x p) e1 p1) e2 p2) X.env] := by rfl) :
    DS X C (.Assign [.Subscript (.Subscript (.Name x p) e1 p1) e2 p2] e pos) (sTab2 i n me m1 m2) := by
  refine ⟨PS_imp (ps_asg he.run (pg_sub (pe_ix ix_seq (pe_var hN hv hd hcd) h1.run hs1) h2.run set_list ha) hs hw hq) fun Dn σ H ⟨env, s, R, h⟩ => ?_⟩
  unfold sTab2 at h
  by_cases it : isTab i n env
  · rw [if_pos it] at h
    refine ⟨env, s, R, bindE R famP h fun d s0 v H0 R0 m0 q0 h0 => ?_⟩
    obtain ⟨u, qu, hu⟩ := R0.fz n _ it
    simp only [Rep] at hu
    subst hu
    refine ⟨_, qu, env, s0, R0, bindE R0 famP h0 fun d1 s1 v1 H1 R1 m1' q1 h1' => ?_⟩
    obtain ⟨j, rfl, hj, ec⟩ := chk_ok (post_bad h1')
    rw [ec] at h1'
    simp only [Rep] at q1
    subst q1
    obtain ⟨r0, t1, sp⟩ := R1.rel
    obtain ⟨k, b, r, hk, hb, hr, ha, hat, hH⟩ := at_row t1 hj
    refine .inl ⟨i.1, _, j, _, rfl, rfl, .inl (.inl t1.top), ha, env, s1, R1, bindE R1 famP h1' fun d2 s2 v2 H2 R2 m2' q2 h2' => ?_⟩
    have q0 := (q0.mv (Ext.ow R0 m1')).mv (Ext.ow R1 m2')
    unfold putTb at h2'
    cases d2 with
    | int l =>
      cases d with
      | int c =>
        simp only [Rep] at q2 q0
        subst q2 q0
        obtain ⟨r0', t2, sp'⟩ := R2.rel
        have hl : s2.2.length = s1.2.length := by rw [← t2.len, t1.len]
        obtain ⟨k', b', r', hk', hb', hr', ha', hat', hH'⟩ := at_row t2 (j := j) (by rw [hl]; exact hj)
        have hk0 := hk'
        rw [hl, hk] at hk'
        cases hk'
        rw [hb] at hb'
        cases hb'
        dsimp only at h2'
        rw [hk0] at h2'
        dsimp only at h2'
        rw [hr'] at h2'
        dsimp only at h2'
        cases el : ixN r'.length l with
        | none => rw [el] at h2'; exact False.elim h2'
        | some q =>
          rw [el] at h2'
          refine ⟨b, r'.map V.int, l, q, rfl, rfl, hH', by rw [List.length_map]; exact el, ?_⟩
          have fb : (wd.join (exT i)).foot b := .inr (.inr (List.mem_of_getElem? hb))
          have m3 : Ext C H2 (upd H2 b (.lst ((r'.map V.int).set q (V.int c)))) := Mv.wr hH' rfl fb
          rw [← List.map_set] at m3 ⊢
          exact h2' σ _ (R2.step m3 ⟨wd.loc r0' fun a f => upd_ne fun z => sp' a (.inr (z ▸ List.mem_of_getElem? hb)) f, t2.put hb hr', sp'⟩) (Ext.ow R (((m0.trans m1').trans m2').trans m3))
      | _ => exact False.elim h2'
    | _ => exact False.elim h2'
  · rw [if_neg it] at h; exact False.elim h
end
end DD
/-! the table is made: [[..] * k for x in ..] -/
namespace DD
open PySem PySem.Spec PyProof.Rows L2
def rowOf : D → Option (List Int)
  | .lst l => go l
  | _ => none
where go : List D → Option (List Int)
  | [] => some []
  | .int k :: l => (go l).map (k :: ·)
  | _ :: _ => none
def rowsOf : List D → Option TT2
  | [] => some []
  | d :: l => match rowOf d with
    | some r => (rowsOf l).map (r :: ·)
    | none => none
theorem go_eq : ∀ {l : List D} {r : List Int}, rowOf.go l = some r → l = r.map D.int
  | [], r, h => by cases h; rfl
  | .int k :: l, r, h => by
    obtain ⟨q, h1, rfl⟩ := Option.map_eq_some_iff.mp (show (rowOf.go l).map (k :: ·) = some r from h)
    rw [go_eq h1]; rfl
  | .non :: _, _, h => by cases h
  | .bl _ :: _, _, h => by cases h
  | .str _ :: _, _, h => by cases h
  | .opq _ :: _, _, h => by cases h
  | .tup _ :: _, _, h => by cases h
  | .lst _ :: _, _, h => by cases h
  | .dct _ :: _, _, h => by cases h
  | .st _ :: _, _, h => by cases h
theorem go_map : ∀ r : List Int, rowOf.go (r.map D.int) = some r
  | [] => rfl
  | k :: r => by show (rowOf.go (r.map D.int)).map (k :: ·) = _; rw [go_map r]; rfl
theorem rowOf_eq {d : D} {r : List Int} (h : rowOf d = some r) : d = .lst (r.map D.int) := by
  cases d with
  | lst l => rw [go_eq (show rowOf.go l = some r from h)]
  | _ => cases h
theorem rowsOf_cons {d : D} {l : List D} {t : TT2} (h : rowsOf (d :: l) = some t) : ∃ r t', rowOf d = some r ∧ rowsOf l = some t' ∧ t = r :: t' := by
  unfold rowsOf at h
  cases e : rowOf d with
  | none => rw [e] at h; cases h
  | some r =>
    rw [e] at h
    obtain ⟨t', h1, h2⟩ := Option.map_eq_some_iff.mp h
    exact ⟨r, t', rfl, h1, h2.symm⟩
theorem reps_map_int {K : PySem.W.Frag} {W : Set'} {H : Hp} : ∀ {r : List Int} {xs : List V}, Reps K W H (r.map D.int) xs → xs = r.map V.int
  | [], xs, h => by simp only [List.map_nil, Reps] at h; exact h
  | k :: r, xs, h => by
    simp only [List.map_cons, Reps, Rep] at h
    obtain ⟨v, q, rfl, rfl, h⟩ := h
    rw [reps_map_int h]
    rfl
section
variable {S : Type} {wd : Wd S} {X : Cx} {C : Dc wd} {al bl cl ai ts vs : List Nat} {iter tg c elt : Expr} {ifs : List Expr} {mi : En S (List D)} {me : En S D} {mt : En S Bool} {pos : Pos} {tgt : D → List Sl → Option (List Sl)}
def eF' (g : Gx) (wd : Wd S) (al : List Nat) (me : En S D) : TE := fun σ H Q => ∃ C' : Dc wd, C'.E = E00 ∧ lF g C' al me σ H Q
theorem eF_pe {Y : Cx} (h : ∀ C' : Dc wd, C'.E = E00 → DF Y C' c cl me) : PE Y c (eF' (gx Y) wd cl me) := ⟨fun pins s σ H Q I ⟨C', e, q⟩ => (h C' e).run.run pins s σ H Q I q⟩
/-- rows without places, being laid -/
structure Rws (H : Hp) (H1 : Hp) (p0 : Addr) (bs : List Addr) (t : TT2) : Prop where
  top : H p0 = some (.lst (bs.map V.ref))
  len : bs.length = t.length
  nd : bs.Nodup
  out : p0 ∉ bs
  new : ∀ b ∈ bs, H1 b = none
  row : ∀ (k : Nat) b r, bs[k]? = some b → t[k]? = some r → H b = some (.lst (r.map V.int))
theorem Rws.here {H H1 : Hp} {p0 : Addr} {bs : List Addr} {t : TT2} (h : Rws H H1 p0 bs t) {b : Addr} (hb : b ∈ bs) : H b ≠ none := by
  obtain ⟨k, hk⟩ := List.mem_iff_getElem?.mp hb
  have hl := (List.getElem?_eq_some_iff.mp hk).1
  rw [h.len] at hl
  rw [h.row k b _ hk (List.getElem?_eq_getElem hl)]
  exact fun z => by cases z
theorem lcF_imp {w : Bool} (hts : ∀ j, j ∈ ts → j ∈ vs) (hai : ∀ j, j ∈ ai → j ∈ al) (σ : Sg) (H : Hp) (Q : VK) (env : List Sl) (s : S) (R : RelE (gx X) C env σ H s)
    (h : ResI (gx X) C w (Ow C env σ ai) H (mi env s) fun _ _ => True)
    (hr : ∀ ds s1, mi env s = .ok ds s1 → ds.length ≤ 16777216 ∧ ∃ r s2 t, compD tgt mt me ds (wipeE (rdo al env) vs) s1 = .ok r s2 ∧ rowsOf r = some t ∧
      ∀ (p0 : Addr) (bs : List Addr) H2, Ext C H H2 → wd.rel s2 H2 → H p0 = none → (∀ b ∈ bs, H b = none) → TabAt H2 (p0, bs) t → Q (.ref p0) H2)
    (hx : ∀ c fs s', mi env s ≠ .ex c fs s') :
    tLc (lI (gx X) C w ai mi) (gC (gx X) wd w ts tgt) (tC (gx X) wd mt) (eF' (gx X) wd cl me) vs σ H Q := by
  have main : ∀ ds s1 (_ : ds.length ≤ 16777216) r s2 t (_ : compD tgt mt me ds (wipeE (rdo al env) vs) s1 = .ok r s2) (_ : rowsOf r = some t) J P H1, Ext C H H1 → wd.rel s1 H1 → ItD (gx X) wd w J P ds → P (Ow C env σ ai) H1 →
      (∀ (p0 : Addr) (bs : List Addr) H2, Ext C H H2 → wd.rel s2 H2 → H p0 = none → (∀ b ∈ bs, H b = none) → TabAt H2 (p0, bs) t → Q (.ref p0) H2) → ∀ D, H1 D = none → ∃ W : Nat → Nat → Hp → Prop, (∃ m, W 0 m (upd H1 D (.lst []))) ∧ ∀ i m H, W i m H →
  (J.stop i H ∧ Q (.ref D) H) ∨ (J.go i H ∧ ∃ Nx : Hp → Prop, (∀ H', Nx H' → ∃ m', m' < m ∧ W (i + 1) m' H') ∧ ∀ x H', J.yld i H x H' → gC (gx X) wd w ts tgt x (wipe σ vs) H' fun σ2 H2 => wipe σ2 vs = wipe σ vs ∧ tC (gx X) wd mt σ2 H2 fun b H3 =>
    if b = true then eF' (gx X) wd cl me σ2 H3 fun y H4 => ∃ acc, H4 D = some (.lst acc) ∧ acc.length < sizeLine ∧ Nx (upd H4 D (.lst (acc ++ [y]))) else Nx H3) := by
    intro ds s1 hz r s2 t hr ht J P H1 m1 r1 it p1 hQ p0 hn
    have R1 := R.step m1 r1
    have nf : ∀ a, wd.foot a → a ≠ p0 := fun a f z => wd.here r1 f (z ▸ hn)
    let W' : Set' := fun a => Ow C env σ al a ∨ a = p0
    let T : Nat → List Addr → TT2 → S → Hp → Prop := fun i bs tt s H => Rws H H1 p0 bs tt ∧ bs.length ≤ i ∧ Mv wd.foot H1 wd.foot H ∧ wd.rel s H ∧ P W' H
    refine ⟨fun i m H => m = ds.length - i ∧ i ≤ ds.length ∧ ∃ bs tt s r' t', T i bs tt s H ∧ compD tgt mt me (ds.drop i) (wipeE (rdo al env) vs) s = .ok r' s2 ∧ rowsOf r' = some t' ∧ tt ++ t' = t, ?_, ?_⟩
    · have mN : Mv wd.foot H1 wd.foot (upd H1 p0 (.lst [])) := (Mv.new hn).thin fun a z => .inl z
      refine ⟨_, rfl, Nat.zero_le _, [], [], s1, r, t, ⟨⟨upd_same, rfl, List.nodup_nil, by simp, by simp, by simp⟩, Nat.le_refl _, mN, wd.loc r1 fun a f => upd_ne (nf a f), ?_⟩, by rw [List.drop_zero]; exact hr, ht, rfl⟩
      exact it.mv ((Mv.sub (W' := Ow C env σ al) (Ow.sub hai)).trans (Mv.new hn)) p1
    · rintro i m H2 ⟨rfl, hi, bs, tt, s3, r', t', ⟨rw_, la, m2, r2, p2⟩, hr', ht', er⟩
      by_cases e : i = ds.length
      · refine .inl ⟨it.stop p2 e, ?_⟩
        rw [e, List.drop_length] at hr'
        cases hr'
        cases ht'
        rw [List.append_nil] at er
        subst er
        exact hQ p0 bs H2 (m1.trans m2) r2 (Ext.back m1 r1 hn) (fun b hb => Ext.back m1 r1 (rw_.new b hb)) ⟨rw_.top, rw_.len, rw_.nd, rw_.out, rw_.row⟩
      · have hlt : i < ds.length := by omega
        refine .inr ⟨it.go p2 hlt, fun H5 => ∃ bs tt s r' t', T (i + 1) bs tt s H5 ∧ compD tgt mt me (ds.drop (i + 1)) (wipeE (rdo al env) vs) s = .ok r' s2 ∧ rowsOf r' = some t' ∧ tt ++ t' = t, ?_, ?_⟩
        · rintro H5 ⟨bs', tt', s5, r5, t5, q5, h5, e5, e6⟩
          exact ⟨ds.length - (i + 1), by omega, rfl, by omega, bs', tt', s5, r5, t5, q5, h5, e5, e6⟩
        · intro x H3 y
          have hD := rw_.top
          have here : ∀ a, W' a → H2 a ≠ none := fun a z => z.elim (fun z => (R1.step m2 r2).here z) fun e => by rw [e, hD]; exact fun z => by cases z
          obtain ⟨m3, r3, q3⟩ := it.yld p2 r2 here (fun a f => .inl (.inl (C.sub a f))) (List.getElem?_eq_getElem hlt) y
          have nfD : ¬ wd.foot p0 := fun f => nf p0 f rfl
          have nfB : ∀ b ∈ bs, ¬ wd.foot b := fun b hb f => wd.here r1 f (rw_.new b hb)
          have keepR : ∀ {H'}, Mv wd.foot H2 wd.foot H' → Rws H' H1 p0 bs tt := fun m => ⟨((m p0 _ hD).1 nfD).1, rw_.len, rw_.nd, rw_.out, rw_.new, fun k b r e1 e2 => ((m b _ (rw_.row k b r e1 e2)).1 (nfB b (List.mem_of_getElem? e1))).1⟩
          have mvW : ∀ {H H' : Hp}, Mv wd.foot H wd.foot H' → Mv W' H W' H' := fun m a o h => ⟨fun nw => ⟨((m a o h).1 fun f => nw (.inl (.inl (C.sub a f)))).1, nw⟩, (m a o h).2⟩
          have hD3 := (keepR m3).top
          obtain ⟨C3, hE3, av3, R3, _⟩ := rdo_rel (al := al) (vs := vs) R1 (m2.trans m3) r3 hn (by rw [hD3]; exact fun z => by cases z)
          have toW : ∀ {a : Addr} {env2 : List Sl} {σ2 : Sg} {al2 : List Nat} {C3 : Dc wd}, (∀ a, C3.av a ↔ W' a) → (∀ (j : Nat) d, env2[j]? ≠ some (Sl.ow d)) → (W' a ↔ Ow C3 env2 σ2 al2 a) := by
            intro a env2 σ2 al2 C3 av3 no
            refine ⟨fun z => .inl ((av3 a).mpr z), ?_⟩
            rintro (z | ⟨j, d, e, _⟩)
            · exact (av3 a).mp z
            · exact (no j d e).elim
          have no0 : ∀ (j : Nat) d, (wipeE (rdo al env) vs)[j]? ≠ some (Sl.ow d) := fun j d e => by
            rcases wipeE_in e with z | ⟨nv, z⟩
            · cases z
            · rcases rdo_get z with z | ⟨d', z, _⟩ <;> cases z
          rw [List.drop_eq_getElem_cons hlt] at hr'
          unfold compD at hr'
          cases et : tgt ds[i] (wipeE (rdo al env) vs) with
          | none => rw [et] at hr'; cases hr'
          | some env2 =>
            rw [et] at hr'
            dsimp only at hr'
            refine ⟨C3, hE3, _, s3, ds[i], env2, R3, q3.sub (fun a z => (toW av3 no0).mpr z), et, fun σ2 R4 sub fr ow => ⟨?_, ?_⟩⟩
            · rw [wipe_ext (σ := wipe σ vs) fr.1 fun j hj => (fr.2 j fun z => hj (hts j z)).1]
              exact wipe_ext (by rw [wipe_length]) fun j hj => wipe_out hj
            · have no2 : ∀ (j : Nat) d, env2[j]? ≠ some (Sl.ow d) := fun j d e => no0 j d (ow j d e)
              obtain ⟨b, s4, hb, hr4⟩ := bind_ok hr'
              have hb := noex_ok hb
              refine ⟨C3, hE3, env2, s3, R4, ?_⟩
              rw [hb]
              intro H4 m4 r4
              cases b with
              | false =>
                rw [if_neg Bool.false_ne_true] at hr4 ⊢
                have m34 := m3.trans m4
                exact ⟨bs, tt, s4, r', t', ⟨keepR m34, by omega, m2.trans m34, r4, it.mv (mvW m34) p2⟩, hr4, ht', er⟩
              | true =>
                rw [if_pos rfl] at hr4 ⊢
                obtain ⟨yd, s5, hy, hr5⟩ := bind_ok hr4
                have hy := noex_ok hy
                obtain ⟨r6, s6, hr6, hq⟩ := bind_ok hr5
                cases hq
                obtain ⟨rw6, t6, e1, e2, e3⟩ := rowsOf_cons ht'
                have := rowOf_eq e1
                subst this
                refine ⟨C3, hE3, env2, s4, R4.step m4 r4, ?_⟩
                rw [hy]
                intro p H5 m5 r5 hp top5
                obtain ⟨xs, hxs, rxs⟩ := top5
                have := reps_map_int rxs
                subst this
                have m34 := m3.trans m4
                have m35 := m34.trans m5
                have K4 := keepR m34
                have K5 := keepR m35
                have hD5 := K5.top
                have ne0 : p ≠ p0 := fun z => by rw [z, K4.top] at hp; cases hp
                have nb : p ∉ bs := fun z => K4.here z hp
                have hp1 : H1 p = none := Ext.back (m2.trans m34) r4 hp
                refine ⟨bs.map V.ref, hD5, ?_, bs ++ [p], tt ++ [rw6], s5, r6, t6, ⟨⟨?_, ?_, ?_, ?_, ?_, ?_⟩, by simp; omega, ?_, ?_, ?_⟩, hr6, e2, ?_⟩
                · rw [List.length_map, sizeLine_eq]; omega
                · rw [upd_same, List.map_append]; rfl
                · simp [K5.len]
                · rw [List.nodup_append]
                  refine ⟨K5.nd, by simp, fun a ha b hb => ?_⟩
                  simp only [List.mem_cons, List.not_mem_nil, or_false] at hb
                  rw [hb]
                  exact fun e => nb (e ▸ ha)
                · simp only [List.mem_append, List.mem_cons, List.not_mem_nil, or_false, not_or]
                  exact ⟨K5.out, Ne.symm ne0⟩
                · intro b hb
                  rcases List.mem_append.mp hb with hb | hb
                  · exact K5.new b hb
                  · simp only [List.mem_cons, List.not_mem_nil, or_false] at hb
                    rw [hb]; exact hp1
                · intro k b r q1 q2
                  by_cases hk : k < bs.length
                  · rw [List.getElem?_append_left hk] at q1
                    rw [List.getElem?_append_left (by rw [← K5.len]; exact hk)] at q2
                    rw [upd_ne (show b ≠ p0 from fun z => K5.out (by rw [← z]; exact List.mem_of_getElem? q1))]
                    exact K5.row k b r q1 q2
                  · have hk2 := (List.getElem?_eq_some_iff.mp q1).1
                    rw [List.length_append, List.length_cons, List.length_nil] at hk2
                    have : k = bs.length := by omega
                    subst this
                    rw [List.getElem?_append_right (by omega), Nat.sub_self] at q1
                    rw [List.getElem?_append_right (by rw [K5.len]; omega), K5.len, Nat.sub_self] at q2
                    cases q1
                    cases q2
                    rw [upd_ne ne0]
                    exact hxs
                · intro a o h
                  have ne : a ≠ p0 := fun z => by rw [z, hn] at h; cases h
                  have := (m2.trans m35) a o h
                  exact ⟨fun nw => ⟨by rw [upd_ne ne]; exact (this.1 nw).1, (this.1 nw).2⟩, fun e => by rw [upd_ne ne]; exact this.2 e⟩
                · exact wd.loc r5 fun a f => upd_ne (nf a f)
                · have mw : Mv W' H5 W' (upd H5 p0 (.lst (bs.map V.ref ++ [.ref p]))) := Mv.wr hD5 rfl (.inr rfl)
                  exact it.mv ((mvW m35).trans mw) p2
                · rw [← er, e3]; simp
  refine ⟨env, s, R, ?_⟩
  cases e : mi env s with
  | ok ds s1 =>
    obtain ⟨hz, r, s2, t, er, et, hQ⟩ := hr ds s1 e
    exact fun J P H1 m1 r1 it p1 => main ds s1 hz r s2 t er et J P H1 m1 r1 it p1 hQ
  | ex c fs s1 => exact (hx c fs s1 e).elim
  | bad => rw [e] at h; exact h
variable {scope : Scope} {own : List (Str × Nat)} {lv n : Nat} {m : Pl → En (S × TT2) Fl} {rest : List Stmt}
def outT (i : Pl) (d : D) (t : TT2) : Option D := match d with
  | .opq v => if v = .ref i.1 then some (.lst (t.map fun r => .lst (r.map D.int))) else none
  | _ => none
noncomputable def sTabs (n : Nat) (al vs : List Nat) (mi : En S (List D)) (tgt : D → List Sl → Option (List Sl)) (me : En S D) (m : Pl → En (S × TT2) Fl) : En S Fl := fun env => M.bind (noex (mi env)) fun ds => if ds.length ≤ 16777216 then M.bind (compD tgt tYesD me ds (wipeE (rdo al env) vs)) fun r => match rowsOf r with
  | some t => pickM fun i : Pl => exitM (outT i) (m i ((clr env).set n (.fz (.opq (.ref i.1))))) t
  | none => M.fail
  else M.fail
theorem tab_rep {K : PySem.W.Frag} {W : Set'} {H : Hp} {i : Pl} {t : TT2} (h : TabAt H i t) (n : ∀ a, W a → a ≠ i.1 ∧ a ∉ i.2) : Rep K W H (.lst (t.map fun r => .lst (r.map D.int))) (.ref i.1) := by
  simp only [Rep]
  refine ⟨i.1, _, rfl, ⟨h.top, fun z => (n _ z).1 rfl⟩, ?_⟩
  have aux : ∀ (bs : List Addr) (t : TT2), bs.length = t.length → (∀ b ∈ bs, ¬ W b) → (∀ (k : Nat) b r, bs[k]? = some b → t[k]? = some r → H b = some (.lst (r.map V.int))) → Reps K W H (t.map fun r => .lst (r.map D.int)) (bs.map V.ref) := by
    intro bs
    induction bs with
    | nil =>
      intro t hl _ _
      cases t with
      | nil => exact .nil
      | cons r t => cases hl
    | cons b bs ih =>
      intro t hl hw hr
      cases t with
      | nil => cases hl
      | cons r t =>
        refine .cons ?_ (ih t (by simpa using hl) (fun b hb => hw b (List.mem_cons_of_mem _ hb)) fun k b r h1 h2 => hr (k + 1) b r (by simpa using h1) (by simpa using h2))
        simp only [Rep]
        refine ⟨b, _, rfl, ⟨hr 0 b r rfl rfl, hw b List.mem_cons_self⟩, ?_⟩
        have ri : ∀ l : List Int, Reps K W H (l.map D.int) (l.map V.int) := by
          intro l
          induction l with
          | nil => exact .nil
          | cons k l ih => exact .cons (by simp only [Rep]) ih
        exact ri r
  exact aux i.2 t h.len (fun b hb z => (n b z).2 hb) h.row
theorem dss_tab {py lpos pos : Pos} {x : Str} (al : List Nat) (own : List (Str × Nat)) {w : Bool} (F : CF lv X C) (hi : DI X C w tg iter ai mi) (hg : ∀ s H Ca cs fp (C' : Dc wd), CF lv (blkX X s H scope cs Ca fp) C' → DG (blkX X s H scope cs Ca fp) C' w tg ts tgt)
    (he : ∀ s H Ca cs fp (C' : Dc wd), CF lv (blkX X s H scope cs Ca fp) C' → DF (blkX X s H scope cs Ca fp) C' elt cl me) (hb : ∀ i (C' : Dc (wd.join (exT i))), CF lv X C' → DSs X C' rest (m i))
    (hN : X.N[n]? = some x := by rfl) (hx : X.env.scope.names.lookup x = some .local := by rfl) (hsw : swapsWith (.ListComp elt [⟨tg, iter, [], 0⟩] scope lpos) (some (.Name x py)) pos.line X.env = pure true := by exact sw_true rfl rfl rfl rfl)
    (ok : blkC X.N X.env.scope scope own = true := by kernel_rfl) (hts : ∀ j, j ∈ ts → j ∈ own.map (·.2) := by decide) (hai : ∀ j, j ∈ ai → j ∈ al := by decide)
    (hs : ∀ x, foldedSetIterable iter X.env x = pure x := by intro _; rfl) : DSs X C (.Assign [.Name x py] (.ListComp elt [⟨tg, iter, [], 0⟩] scope lpos) pos :: rest) (sTabs n al (own.map (·.2)) mi tgt me m) := by
  refine ⟨PSs_imp (pss_cons (ps_setLc (g := gC (gx X) wd w ts tgt) (tt := tC (gx X) wd tYesD) (te := eF' (gx X) wd cl me) F.calm F.nd hN hx hsw hi.run (blkOk_by ok) (fun s H Ca cs fp => gC_pg (Y := blkX X s H scope cs Ca fp) fun C' e => hg s H Ca cs fp C' (F.blk s H scope cs Ca fp e))
    (fun s H Ca cs fp => tC_pt (Y := blkX X s H scope cs Ca fp) fun C' e => dts_nil) (fun s H Ca cs fp => eF_pe (Y := blkX X s H scope cs Ca fp) fun C' e => he s H Ca cs fp C' (F.blk s H scope cs Ca fp e)) hs) (pss_join (x := exT) F hb)) fun Dn σ H ⟨env, s, R, h⟩ => ?_⟩
  have hnb : sTabs n al (own.map (·.2)) mi tgt me m env s ≠ .bad := fun z => by rw [z] at h; exact h
  have hok : ∃ ds s1, mi env s = .ok ds s1 := by
    unfold sTabs at hnb
    cases e : mi env s with
    | ok ds s1 => exact ⟨ds, s1, rfl⟩
    | ex c fs s1 => exact (hnb (bnd_bad (by unfold noex; rw [e]))).elim
    | bad => exact (hnb (bnd_bad (by unfold noex; rw [e]))).elim
  obtain ⟨ds, s1, eo⟩ := hok
  show tLc (lI (gx X) C w ai mi) (gC (gx X) wd w ts tgt) (tC (gx X) wd tYesD) (eF' (gx X) wd cl me) (own.map (·.2)) σ H fun v H1 => lJ (gx X) C exT m Dn (σ.set n (some v)) H1
  refine lcF_imp (mi := mi) (me := me) (mt := tYesD) (tgt := tgt) hts hai σ H _ env s R ?_ (fun ds' s1' e' => ?_) fun c fs s' e' => by rw [eo] at e'; cases e'
  · rw [eo]
    exact fun _ _ _ _ _ _ _ => trivial
  · rw [eo] at e'
    cases e'
    unfold sTabs at h
    rw [bnd_ok (show noex (mi env) s = .ok ds s1 by unfold noex; rw [eo])] at h
    by_cases hz : ds.length ≤ 16777216
    · rw [if_pos hz] at h
      refine ⟨hz, ?_⟩
      cases er : compD tgt tYesD me ds (wipeE (rdo al env) (own.map (·.2))) s1 with
      | ok r s2 =>
        rw [bnd_ok er] at h
        cases et : rowsOf r with
        | none => rw [et] at h; exact False.elim h
        | some t =>
          rw [et] at h
          refine ⟨r, s2, t, rfl, et, fun p0 bs H2 m2 r2 n0 nb tab => ?_⟩
          obtain ⟨C', e, av, R', mv⟩ := join_rel (x := exT (p0, bs)) (t := t) R.clr clr_ow m2 (fun a f => f.elim (fun z => z ▸ n0) (nb a)) r2 tab
          refine ⟨(p0, bs), C', e, _, (s2, t), R'.setfz (i := n) (d := .opq (.ref p0)) (v := .ref p0) (by simp only [Rep]), ?_⟩
          have h : Post (gx X) C Dn (Ow C env σ []) H (pickM (fun i : Pl => exitM (outT i) (m i ((clr env).set n (.fz (.opq (.ref i.1))))) t) s2) := h
          rcases pick_at (fun i : Pl => exitM (outT i) (m i ((clr env).set n (.fz (.opq (.ref i.1))))) t) s2 (p0, bs) with z | z
          · rw [z] at h; exact False.elim h
          · rw [z] at h
            refine exit_post mv (fun d t z v H3 e1 tb q => ?_) h
            unfold outT at e1
            split at e1
            · split at e1
              · rename_i hv
                cases e1
                simp only [Rep] at q
                subst q
                rw [hv]
                refine tab_rep tb fun a ha => ⟨fun z => C.low a ha (by rw [z]; exact Ext.back R.ext R.rel n0), fun z => C.low a ha (Ext.back R.ext R.rel (nb a z))⟩
              · cases e1
            · cases e1
      | ex c fs s2 => exact (compD_noex er).elim
      | bad => rw [bnd_bad er] at h; exact False.elim h
    · rw [if_neg hz] at h; exact False.elim h
end
end DD
/-! a tuple times an int, known to the object; iterables that lend more -/
namespace DD
open PySem PySem.Spec PyProof.Rows L2
def rRepTZ (K : PySem.W.Frag) : R2 := fun a b H Q => ∃ (l : Addr) (n : Int) (ys : List V), a = V.ref l ∧ b = V.int n ∧ SqT K H l ys ∧ 0 < ys.length ∧ 1 < n ∧ n < 1001 ∧ ys.length < 1001 ∧ ∀ q o, H q = none → o.dict = none → Q (V.ref q) (upd H q (.frz o (.tup (List.replicate n.toNat ys).flatten)))
theorem op_repTZ {X : Cx} : OpR X (binaryOp .Mult) (rRepTZ X.K) := by
  intro pins s σ H a b va vb Q I ra rb h
  obtain ⟨l, n, ys, rfl, rfl, ht, h0, n1, n2, hy, fin⟩ := h
  obtain ⟨tk, rfl⟩ := rb
  cases ra
  obtain ⟨ws, rv, tup, _⟩ := I.tuple ht
  obtain ⟨ob, hob, hcls, cnt, hdat⟩ := tup
  obtain ⟨cls, dct, dat, slots⟩ := ob
  simp only at hcls hdat
  subst hcls
  subst hdat
  have lw : ws.length = ys.length := rv.length.symm
  have ne0 : ws.toArray.isEmpty = false := by rw [List.isEmpty_toArray]; cases ws with | nil => simp at lw; omega | cons _ _ => rfl
  have cap : ((ws.toArray.size : Nat) : Int) * n ≤ 1000000 := by
    rw [List.size_toArray, lw]
    calc ((ys.length : Nat) : Int) * n ≤ 1000 * n := Int.mul_le_mul_of_nonneg_right (by omega) (by omega)
      _ ≤ 1000000 := by omega
  have fl : (List.replicate n.toNat ws).flatten.length ≤ sizeLine := by
    have q : n.toNat * ws.length ≤ 1000 * 1000 := Nat.mul_le_mul (by omega) (by omega)
    rw [PyProof.Rows.lm_len_rep_flat, sizeLine_eq]
    omega
  have k0 : (decide (n < -(2 ^ 63)) || decide (n ≥ 2 ^ 63)) = false := by rw [Bool.or_eq_false_iff, decide_eq_false_iff_not, decide_eq_false_iff_not]; omega
  have k1 : (ws.toArray.isEmpty || n == 1) = false := by rw [ne0]; exact beq_eq_false_iff_ne.mpr (show n ≠ 1 by omega)
  have k2 : (decide (n ≤ 0) || ws.toArray.isEmpty) = false := by rw [ne0, Bool.or_false, decide_eq_false_iff_not]; omega
  have k4 : Builtin.Tuple.tupleTooMany (((ws.toArray.size : Nat) : Int) * n) = false := by show decide _ = false; rw [sizeLine_eq, decide_eq_false_iff_not]; omega
  have hl : s.heap.get? l = some ⟨.type "tuple", dct, .seq ws.toArray cnt, slots⟩ := hob
  have mul := tuple_mulW l ws.toArray cnt dct slots n tk k0 k1 k2 (by omega) k4 (by rw [size_rep, List.size_toArray]; exact fl)
  have ti : ∀ s' : Shared, s'.TypeIs (.int n tk) "int" := fun s' => typeIs_int s' n tk
  have rm := int_rmul_tuple n tk l ws.toArray cnt dct slots
  refine wpAny_binaryOp_repeat_ref (T := "tuple") (U := "int") (by decide) ⟨_, hl, rfl⟩ ti noFill_tuple_mul F.fills_int_mul F.slot_int_rmul repeat_tuple F.slot_int_index.lookup
    (call_meets F.slot_int_rmul (ti s) F.entry_int_rmul (F.args_int_rmul_2 _ _) rm ⟨hl, rfl, ⟨_, hl, rfl⟩,
      call_meets F.slot_tuple_mul ⟨_, hl, rfl⟩ F.entry_tuple_mul (F.args_tuple_mul_2 _ _) mul ⟨hl, ?_⟩⟩)
  rw [size_rep]
  have J := inv_tupZ (s := s) (g := s.heap) I (rv.rep n.toNat) (by have := (rv.rep n.toNat).length; omega)
  exact ⟨.ref s.heap.objs.size, _, J, rfl, fin _ _ (I.hok.fresh (Nat.le_refl _)) rfl⟩
def dMulT : D → D → Option D
  | .tup l, .int k => if 0 < l.length ∧ 1 < k.toNat ∧ k.toNat < 1001 ∧ l.length < 1001 then some (.tup (List.replicate k.toNat l).flatten) else none
  | _, _ => none
section
variable {S : Type} {wd : Wd S} {X : Cx} {C : Dc wd}
theorem v2_mulT : V2 X.K wd (rRepTZ X.K) dMulT := by
  intro W H s x y d e z Q r hW hf h1 h2 h k
  unfold dMulT at h
  split at h
  · obtain ⟨c, rfl⟩ := ite_some h
    simp only [Rep] at h1 h2
    subst h2
    obtain ⟨a, xs, rfl, t, q⟩ := h1
    have hl := q.length
    refine ⟨a, _, xs, rfl, rfl, t.seq, by omega, by omega, by omega, by omega, fun p o hp ho => ?_⟩
    obtain ⟨m1, r1, m2⟩ := Wd.laidX wd (o := .frz o (.tup (List.replicate _ xs).flatten)) r hp hf
    refine k _ _ m1 r1 ?_
    simp only [Rep]
    refine ⟨p, _, rfl, .at ho, ((q.rep _).mv m2).mv (Mv.sub fun a z => .inl z)⟩
  · cases h
/-- an iterable that lends more -/
theorem DI.weak {b : Bool} {tg e : Expr} {al bl : List Nat} {m : En S (List D)} (h : DI X C b tg e al m) (s : ∀ i, i ∈ al → i ∈ bl := by decide) : DI X C b tg e bl m :=
  ⟨PI_imp h.run fun σ H R ⟨env, st, R', q⟩ => ⟨env, st, R', by
    cases e : m env st with
    | ok ds s' => rw [e] at q; exact fun J P H' m r it p => q J P H' m r it (it.mv (Mv.sub fun a z => Ow.sub s a z) p)
    | ex c fs s' => rw [e] at q; exact q
    | bad => rw [e] at q; exact q⟩⟩
end
end DD
namespace DD
open PySem PySem.Spec PyProof.Rows L2
/-! l + r, a new list -/
def dCatL : D → D → Option D
  | .lst l, .lst r => if l.length + r.length ≤ 16777216 then some (.lst (l ++ r)) else none
  | _, _ => none
theorem df_catL {S : Type} {wd : Wd S} {X : Cx} {C : Dc wd} {a b : Expr} {al bl : List Nat} {ma mb : En S D} {pos : Pos} (ha : DE X C a al ma) (hb : DE X C b bl mb) : DF X C (.BinOp a .Add b pos) (al ++ bl) (eOp2 dCatL ma mb) := by
  refine ⟨PE_imp (pe_op op_cat ha.run hb.run) fun σ H Q ⟨env, s, R, h⟩ => ?_⟩
  unfold eOp2 at h
  refine ⟨env, s, R, bindE R famF h fun d s1 x H1 R1 m1 q1 h1 => ⟨env, s1, R1, bindE R1 famF h1 fun e s2 y H2 R2 m2 q2 h2 => ?_⟩⟩
  have q1 := q1.mv (Ext.ow R1 m2)
  cases ef : dCatL d e with
  | none => rw [ef] at h2; exact False.elim h2
  | some z =>
    rw [ef] at h2
    unfold dCatL at ef
    split at ef
    · obtain ⟨c, rfl⟩ := ite_some ef
      simp only [Rep] at q1 q2
      obtain ⟨a1, xs, rfl, t1, r1⟩ := q1
      obtain ⟨b1, ys, rfl, t2, r2⟩ := q2
      have l1 := r1.length
      have l2 := r2.length
      refine ⟨a1, b1, xs, ys, rfl, rfl, t1.1, t2.1, by rw [sizeLine_eq]; omega, fun p hp => ?_⟩
      obtain ⟨m4, r4⟩ := wd.laid (o := .lst (xs ++ ys)) R2.rel hp
      refine h2 _ _ m4 r4 hp ⟨_, upd_same, ?_⟩
      have w1 : Reps X.K (Ow C env σ (al ++ bl)) H2 _ xs := r1.mv (Mv.sub (Ow.sub fun i hi => List.mem_append_left _ hi))
      have w2 : Reps X.K (Ow C env σ (al ++ bl)) H2 _ ys := r2.mv (Mv.sub (Ow.sub fun i hi => List.mem_append_right _ hi))
      exact (w1.append w2).mv (Mv.new hp)
    · cases ef
end DD
namespace DD
open PySem PySem.Spec PyProof.Rows L2
/-! ### how the terms are reckoned: each step by name, what follows is never looked into -/
section
variable {S α β : Type} {env e : List Sl} {m a b c : En S D} {mr : En S (List D)} {t u : En S Bool} {x y : En S Fl} {i : Nat} {al vs : List Nat} {d : D} {ds : List D} {f : D → D → Option D} {k n : Nat}
@[simp] theorem q_bind_ret (a : α) (f : α → M S β) : M.bind (M.ret a) f = f a := rfl
@[simp] theorem q_bind_fail (f : α → M S β) : M.bind M.fail f = M.fail := rfl
@[simp] theorem q_noex_ret (a : α) : noex (M.ret a : M S α) = M.ret a := rfl
@[simp] theorem q_ofO_some (a : α) : (M.ofO (some a) : M S α) = M.ret a := rfl
@[simp] theorem q_ofO_none : (M.ofO none : M S α) = M.fail := rfl
@[simp] theorem q_bind_exn (c : Str) (fs : List (Str × D)) (f : α → M S β) : M.bind (M.exn c fs) f = M.exn c fs := rfl
/-! statements -/
@[simp] theorem q_sNext : (sNext env : M S Fl) = M.ret (.nx env) := rfl
def kSeq (y : En S Fl) : Fl → M S Fl
  | .nx e => y e
  | f => M.ret f
@[simp] theorem q_kSeq1 : kSeq y (.nx e) = y e := rfl
@[simp] theorem q_kSeq2 : kSeq y (.rt d) = M.ret (.rt d) := rfl
@[simp] theorem q_kSeq3 : kSeq y (.bk e) = M.ret (.bk e) := rfl
@[simp] theorem q_kSeq4 : kSeq y (.ct e) = M.ret (.ct e) := rfl
@[simp] theorem q_sSeq : sSeq x y env = M.bind (x env) (kSeq y) := rfl
def kExpr (env : List Sl) (d : D) : M S Fl := M.ret (.nx env)
@[simp] theorem q_kExpr : (kExpr env d : M S Fl) = M.ret (.nx env) := rfl
@[simp] theorem q_sExpr : sExpr m env = M.bind (m env) (kExpr env) := rfl
def kRet (d : D) : M S Fl := M.ret (.rt d)
@[simp] theorem q_kRet : (kRet d : M S Fl) = M.ret (.rt d) := rfl
@[simp] theorem q_sRet : sRet m env = M.bind (m env) kRet := rfl
@[simp] theorem q_sRetN : (sRetN env : M S Fl) = M.ret (.rt .non) := rfl
def kIf (x y : En S α) (env : List Sl) (q : Bool) : M S α := if q = true then x env else y env
@[simp] theorem q_kIf1 {x y : En S α} : kIf x y env true = x env := rfl
@[simp] theorem q_kIf2 {x y : En S α} : kIf x y env false = y env := rfl
@[simp] theorem q_sIf : sIf t x y env = M.bind (t env) (kIf x y env) := rfl
@[simp] theorem q_sBrk : (sBrk env : M S Fl) = M.ret (.bk env) := rfl
@[simp] theorem q_sCnt : (sCnt env : M S Fl) = M.ret (.ct env) := rfl
def kAsg (i : Nat) (al : List Nat) (env : List Sl) (d : D) : M S Fl := M.ret (.nx ((esc al d env).set i (.fz d)))
@[simp] theorem q_kAsg : (kAsg i al env d : M S Fl) = M.ret (.nx ((esc al d env).set i (.fz d))) := rfl
@[simp] theorem q_sAsg : sAsg i al m env = M.bind (m env) (kAsg i al env) := rfl
def kAsgF (i : Nat) (al : List Nat) (env : List Sl) (d : D) : M S Fl := M.ret (.nx ((escI al d env).set i (.ow d)))
@[simp] theorem q_kAsgF : (kAsgF i al env d : M S Fl) = M.ret (.nx ((escI al d env).set i (.ow d))) := rfl
@[simp] theorem q_sAsgF : sAsgF i al m env = M.bind (m env) (kAsgF i al env) := rfl
def kOpt (o : Option (List Sl)) : M S Fl := match o with
  | some env' => M.ret (.nx env')
  | none => M.fail
@[simp] theorem q_kOpt1 : (kOpt (some e) : M S Fl) = M.ret (.nx e) := rfl
@[simp] theorem q_kOpt2 : (kOpt none : M S Fl) = M.fail := rfl
def kAsgG (tg : D → List Sl → Option (List Sl)) (al : List Nat) (env : List Sl) (d : D) : M S Fl := kOpt (tg d (esc al d env))
variable {tg : D → List Sl → Option (List Sl)}
@[simp] theorem q_kAsgG : (kAsgG tg al env d : M S Fl) = kOpt (tg d (esc al d env)) := rfl
@[simp] theorem q_sAsgG : sAsgG tg al m env = M.bind (m env) (kAsgG tg al env) := rfl
def kApp2 (i : Nat) (env : List Sl) (d : D) (o : Option Sl) : M S Fl := match o with
  | some (.ow (.lst l)) => if l.length < 16777216 then M.ret (.nx (env.set i (.ow (.lst (l ++ [d]))))) else M.fail
  | _ => M.fail
theorem q_kApp2 {l : List D} (h : l.length < 16777216) : (kApp2 i env d (some (.ow (.lst l))) : M S Fl) = M.ret (.nx (env.set i (.ow (.lst (l ++ [d]))))) := if_pos h
def kApp1 (i : Nat) (al : List Nat) (env : List Sl) (d : D) : M S Fl := kApp2 i (esc al d env) d ((esc al d env)[i]?)
@[simp] theorem q_kApp1 : (kApp1 i al env d : M S Fl) = kApp2 i (esc al d env) d ((esc al d env)[i]?) := rfl
def kApp0 (i : Nat) (al : List Nat) (m : En S D) (env : List Sl) (o : Option Sl) : M S Fl := match o with
  | some (.ow (.lst _)) => M.bind (m env) (kApp1 i al env)
  | _ => M.fail
@[simp] theorem q_kApp0 {l : List D} : kApp0 i al m env (some (.ow (.lst l))) = M.bind (m env) (kApp1 i al env) := rfl
@[simp] theorem q_sApp : sApp i al m env = kApp0 i al m env (env[i]?) := by
  unfold sApp kApp0 kApp1 kApp2
  rfl
def kPut4 (i : Nat) (env : List Sl) (o : Option D) : M S Fl := match o with
  | some z => M.ret (.nx (env.set i (.ow z)))
  | none => M.fail
@[simp] theorem q_kPut4 {z : D} : (kPut4 i env (some z) : M S Fl) = M.ret (.nx (env.set i (.ow z))) := rfl
def kPut3 (i : Nat) (env : List Sl) (d k : D) (o : Option Sl) : M S Fl := match o with
  | some (.ow d0) => kPut4 i env (putAt d0 k d)
  | _ => M.fail
@[simp] theorem q_kPut3 {d0 k : D} : (kPut3 i env d k (some (.ow d0)) : M S Fl) = kPut4 i env (putAt d0 k d) := rfl
def kPut2 (i : Nat) (al : List Nat) (env : List Sl) (d k : D) : M S Fl := kPut3 i (esc al d env) d k ((esc al d env)[i]?)
@[simp] theorem q_kPut2 {k : D} : (kPut2 i al env d k : M S Fl) = kPut3 i (esc al d env) d k ((esc al d env)[i]?) := rfl
def kPut1 (i : Nat) (al : List Nat) (mx : En S D) (env : List Sl) (d : D) (o : Option Sl) : M S Fl := match o with
  | some (.ow _) => M.bind (mx env) (kPut2 i al env d)
  | _ => M.fail
@[simp] theorem q_kPut1 {d0 : D} : kPut1 i al m env d (some (.ow d0)) = M.bind (m env) (kPut2 i al env d) := rfl
def kPut0 (i : Nat) (al : List Nat) (mx : En S D) (env : List Sl) (d : D) : M S Fl := kPut1 i al mx env d (env[i]?)
@[simp] theorem q_kPut0 : kPut0 i al m env d = kPut1 i al m env d (env[i]?) := rfl
@[simp] theorem q_sPut : sPut i al m a env = M.bind (m env) (kPut0 i al a env) := by
  unfold sPut
  rfl
def kAdd2 (i : Nat) (env : List Sl) (l : List Key) (o : Option Key) : M S Fl := match o with
  | some k => if l.length < 4000 then M.ret (.nx (env.set i (.ow (.st (memL l k))))) else M.fail
  | none => M.fail
theorem q_kAdd2 {l : List Key} {k : Key} (h : l.length < 4000) : (kAdd2 i env l (some k) : M S Fl) = M.ret (.nx (env.set i (.ow (.st (memL l k))))) := if_pos h
def kAdd1 (i : Nat) (env : List Sl) (l : List Key) (d : D) : M S Fl := kAdd2 i env l (keyOf d)
@[simp] theorem q_kAdd1 {l : List Key} : (kAdd1 i env l d : M S Fl) = kAdd2 i env l (keyOf d) := rfl
def kAdd0 (i : Nat) (m : En S D) (env : List Sl) (o : Option Sl) : M S Fl := match o with
  | some (.ow (.st l)) => M.bind (m env) (kAdd1 i env l)
  | _ => M.fail
@[simp] theorem q_kAdd0 {l : List Key} : kAdd0 i m env (some (.ow (.st l))) = M.bind (m env) (kAdd1 i env l) := rfl
@[simp] theorem q_sSAdd : sSAdd i m env = kAdd0 i m env (env[i]?) := by
  unfold sSAdd kAdd0 kAdd1 kAdd2
  rfl
def kAug2 (i : Nat) (env : List Sl) (o : Option D) : M S Fl := match o with
  | some z => if z.hard = true then M.ret (.nx (env.set i (.fz z))) else M.fail
  | none => M.fail
theorem q_kAug2 {z : D} (h : z.hard = true) : (kAug2 i env (some z) : M S Fl) = M.ret (.nx (env.set i (.fz z))) := if_pos h
@[simp] theorem q_kAug2i {z : Int} : (kAug2 i env (some (.int z)) : M S Fl) = M.ret (.nx (env.set i (.fz (.int z)))) := rfl
def kAug1 (i : Nat) (f : D → D → Option D) (env : List Sl) (d e : D) : M S Fl := kAug2 i env (f d e)
@[simp] theorem q_kAug1 {e : D} : (kAug1 i f env d e : M S Fl) = kAug2 i env (f d e) := rfl
def kAug0 (i : Nat) (f : D → D → Option D) (m : En S D) (env : List Sl) (o : Option Sl) : M S Fl := match o with
  | some (.fz d) => M.bind (m env) (kAug1 i f env d)
  | _ => M.fail
@[simp] theorem q_kAug0 : kAug0 i f m env (some (.fz d)) = M.bind (m env) (kAug1 i f env d) := rfl
@[simp] theorem q_sAug : sAug i f m env = kAug0 i f m env (env[i]?) := by
  unfold sAug kAug0 kAug1 kAug2
  rfl
def kRaise (c : Str) (fl : List Str) (ds : List D) : M S Fl := if ds.length = fl.length ∧ fl.length ≤ 900 then M.exn c (fl.zip ds).reverse else M.fail
@[simp] theorem q_kRaise1 {c f1 : Str} : (kRaise c [f1] [d] : M S Fl) = M.exn c [(f1, d)] := rfl
@[simp] theorem q_kRaise2 {c f1 f2 : Str} {d2 : D} : (kRaise c [f1, f2] [d, d2] : M S Fl) = M.exn c [(f2, d2), (f1, d)] := rfl
@[simp] theorem q_sRaise {c : Str} {fl : List Str} : sRaise c fl mr env = M.bind (mr env) (kRaise c fl) := rfl
def kFor (al : List Nat) (tg : D → List Sl → Option (List Sl)) (x : En S Fl) (env : List Sl) (ds : List D) : M S Fl := forD tg x ds (frz al env)
@[simp] theorem q_kFor : kFor al tg x env ds = forD tg x ds (frz al env) := rfl
@[simp] theorem q_sFor {mi : En S (List D)} : sFor al mi tg x env = M.bind (mi env) (kFor al tg x env) := rfl
def kForF (tg : D → List Sl → Option (List Sl)) (x : En S Fl) (ds : List D) : Fl → M S Fl
  | .nx e => forD tg x ds e
  | .ct e => forD tg x ds e
  | .bk e => M.ret (.nx e)
  | .rt d => M.ret (.rt d)
@[simp] theorem q_kForF1 : kForF tg x ds (.nx e) = forD tg x ds e := rfl
@[simp] theorem q_kForF2 : kForF tg x ds (.ct e) = forD tg x ds e := rfl
@[simp] theorem q_kForF3 : kForF tg x ds (.bk e) = M.ret (.nx e) := rfl
@[simp] theorem q_kForF4 : kForF tg x ds (.rt d) = M.ret (.rt d) := rfl
def kForO (tg : D → List Sl → Option (List Sl)) (x : En S Fl) (ds : List D) (o : Option (List Sl)) : M S Fl := match o with
  | none => M.fail
  | some env' => M.bind (x env') (kForF tg x ds)
@[simp] theorem q_kForO : kForO tg x ds (some e) = M.bind (x e) (kForF tg x ds) := rfl
@[simp] theorem q_forD_nil : forD tg x [] env = M.ret (.nx env) := rfl
theorem q_forD_cons : forD tg x (d :: ds) env = kForO tg x ds (tg d env) := by
  unfold kForO
  rw [forD]
  rfl
def kRun : Fl → M S D
  | .nx _ => M.ret .non
  | .rt d => M.ret d
  | _ => M.fail
@[simp] theorem q_kRun1 : (kRun (.nx e) : M S D) = M.ret .non := rfl
@[simp] theorem q_kRun2 : (kRun (.rt d) : M S D) = M.ret d := rfl
@[simp] theorem q_runD : runD k x ds = M.bind (x (ds.map .fz ++ List.replicate (k - ds.length) .no)) kRun := rfl
/-! expressions -/
def kVar (o : Option Sl) : M S D := match o with
  | some (.fz d) => M.ret d
  | some (.ow d) => if d.isSt = true then M.fail else M.ret d
  | _ => M.fail
@[simp] theorem q_kVar1 : (kVar (some (.fz d)) : M S D) = M.ret d := rfl
@[simp] theorem q_kVar2 {l : List D} : (kVar (some (.ow (.lst l))) : M S D) = M.ret (.lst l) := rfl
@[simp] theorem q_kVar3 {l : List (Key × D)} : (kVar (some (.ow (.dct l))) : M S D) = M.ret (.dct l) := rfl
@[simp] theorem q_eVar : (eVar i env : M S D) = kVar (env[i]?) := rfl
def kVarF (o : Option Sl) : M S D := match o with
  | some (.fz d) => M.ret d
  | _ => M.fail
@[simp] theorem q_kVarF : (kVarF (some (.fz d)) : M S D) = M.ret d := rfl
@[simp] theorem q_eVarF : (eVarF i env : M S D) = kVarF (env[i]?) := rfl
@[simp] theorem q_eC : (eC d env : M S D) = M.ret d := rfl
def kOp2b (f : D → D → Option D) (d e : D) : M S D := M.ofO (f d e)
@[simp] theorem q_kOp2b {e : D} : (kOp2b f d e : M S D) = M.ofO (f d e) := rfl
def kOp2a (f : D → D → Option D) (b : En S D) (env : List Sl) (d : D) : M S D := M.bind (b env) (kOp2b f d)
@[simp] theorem q_kOp2a : kOp2a f b env d = M.bind (b env) (kOp2b f d) := rfl
@[simp] theorem q_eOp2 : eOp2 f a b env = M.bind (a env) (kOp2a f b env) := rfl
def kOp1 (g : D → Option D) (d : D) : M S D := M.ofO (g d)
@[simp] theorem q_kOp1 {g : D → Option D} : (kOp1 g d : M S D) = M.ofO (g d) := rfl
@[simp] theorem q_eOp1 {g : D → Option D} : eOp1 g m env = M.bind (m env) (kOp1 g) := rfl
@[simp] theorem q_aNil : (aNil env : M S (List D)) = M.ret [] := rfl
def kConsb (d : D) (r : List D) : M S (List D) := M.ret (d :: r)
@[simp] theorem q_kConsb : (kConsb d ds : M S (List D)) = M.ret (d :: ds) := rfl
def kConsa (mr : En S (List D)) (env : List Sl) (d : D) : M S (List D) := M.bind (mr env) (kConsb d)
@[simp] theorem q_kConsa : kConsa mr env d = M.bind (mr env) (kConsb d) := rfl
@[simp] theorem q_aCons : aCons m mr env = M.bind (m env) (kConsa mr env) := rfl
def kTup (ds : List D) : M S D := if ds.length ≤ 4096 then M.ret (.tup ds) else M.fail
@[simp] theorem q_kTup1 {d1 : D} : (kTup [d1] : M S D) = M.ret (.tup [d1]) := rfl
@[simp] theorem q_kTup2 {d1 d2 : D} : (kTup [d1, d2] : M S D) = M.ret (.tup [d1, d2]) := rfl
@[simp] theorem q_kTup3 {d1 d2 d3 : D} : (kTup [d1, d2, d3] : M S D) = M.ret (.tup [d1, d2, d3]) := rfl
@[simp] theorem q_kTup4 {d1 d2 d3 d4 : D} : (kTup [d1, d2, d3, d4] : M S D) = M.ret (.tup [d1, d2, d3, d4]) := rfl
@[simp] theorem q_kTup0 : (kTup [] : M S D) = M.ret (.tup []) := rfl
@[simp] theorem q_eTup : eTup mr env = M.bind (mr env) kTup := rfl
def kLst (ds : List D) : M S D := if ds.length ≤ 4096 then M.ret (.lst ds) else M.fail
@[simp] theorem q_kLst0 : (kLst [] : M S D) = M.ret (.lst []) := rfl
@[simp] theorem q_kLst1 {d1 : D} : (kLst [d1] : M S D) = M.ret (.lst [d1]) := rfl
@[simp] theorem q_kLst2 {d1 d2 : D} : (kLst [d1, d2] : M S D) = M.ret (.lst [d1, d2]) := rfl
@[simp] theorem q_kLst3 {d1 d2 d3 : D} : (kLst [d1, d2, d3] : M S D) = M.ret (.lst [d1, d2, d3]) := rfl
@[simp] theorem q_eLst : eLst mr env = M.bind (mr env) kLst := rfl
def kCB (g : List D → Option D) (ds : List D) : M S D := M.ofO (g ds)
@[simp] theorem q_kCB {g : List D → Option D} : (kCB g ds : M S D) = M.ofO (g ds) := rfl
@[simp] theorem q_eCB {g : List D → Option D} : eCB g mr env = M.bind (mr env) (kCB g) := rfl
def kCall (fn : List D → M S D) (n : Nat) (ds : List D) : M S D := if ds.length = n then fn ds else M.fail
variable {fn : List D → M S D}
@[simp] theorem q_kCall0 : kCall fn 0 [] = fn [] := rfl
@[simp] theorem q_kCall1 {d1 : D} : kCall fn 1 [d1] = fn [d1] := rfl
@[simp] theorem q_kCall2 {d1 d2 : D} : kCall fn 2 [d1, d2] = fn [d1, d2] := rfl
@[simp] theorem q_kCall3 {d1 d2 d3 : D} : kCall fn 3 [d1, d2, d3] = fn [d1, d2, d3] := rfl
@[simp] theorem q_kCall4 {d1 d2 d3 d4 : D} : kCall fn 4 [d1, d2, d3, d4] = fn [d1, d2, d3, d4] := rfl
@[simp] theorem q_kCall5 {d1 d2 d3 d4 d5 : D} : kCall fn 5 [d1, d2, d3, d4, d5] = fn [d1, d2, d3, d4, d5] := rfl
@[simp] theorem q_kCall6 {d1 d2 d3 d4 d5 d6 : D} : kCall fn 6 [d1, d2, d3, d4, d5, d6] = fn [d1, d2, d3, d4, d5, d6] := rfl
@[simp] theorem q_eCall : eCall fn n mr env = M.bind (mr env) (kCall fn n) := rfl
variable {ml mh : EnO S} {lo hi : Option Int}
def kCut2 (d : D) (lo hi : Option Int) : M S D := M.ofO (dCut d lo hi)
@[simp] theorem q_kCut2 : (kCut2 d lo hi : M S D) = M.ofO (dCut d lo hi) := rfl
def kCut1 (mh : EnO S) (env : List Sl) (d : D) (lo : Option Int) : M S D := M.bind (mh env) (kCut2 d lo)
@[simp] theorem q_kCut1 : kCut1 mh env d lo = M.bind (mh env) (kCut2 d lo) := rfl
def kCut0 (ml mh : EnO S) (env : List Sl) (d : D) : M S D := M.bind (ml env) (kCut1 mh env d)
@[simp] theorem q_kCut0 : kCut0 ml mh env d = M.bind (ml env) (kCut1 mh env d) := rfl
@[simp] theorem q_eCut : eCut m ml mh env = M.bind (m env) (kCut0 ml mh env) := rfl
@[simp] theorem q_oNone : (oNone env : M S (Option Int)) = M.ret none := rfl
def kSome (d : D) : M S (Option Int) := match d with
  | .int i => M.ret (some i)
  | _ => M.fail
@[simp] theorem q_kSome {j : Int} : (kSome (.int j) : M S (Option Int)) = M.ret (some j) := rfl
@[simp] theorem q_oSome : oSome m env = M.bind (m env) kSome := by
  unfold oSome
  rfl
def kVal (d : D) : M S Bool := match d with
  | .bl b => M.ret b
  | _ => M.fail
@[simp] theorem q_kVal {q : Bool} : (kVal (.bl q) : M S Bool) = M.ret q := rfl
@[simp] theorem q_tVal : tVal m env = M.bind (m env) kVal := by
  unfold tVal
  rfl
def kCh2 (f' : D → D → Option D) (e k : D) : M S D := M.ofO (f' e k)
@[simp] theorem q_kCh2 {f' : D → D → Option D} {e k : D} : (kCh2 f' e k : M S D) = M.ofO (f' e k) := rfl
def kCh1 (f' : D → D → Option D) (c : En S D) (env : List Sl) (e : D) (o : Option D) : M S D := match o with
  | some (.bl true) => M.bind (c env) (kCh2 f' e)
  | some (.bl false) => M.ret (.bl false)
  | _ => M.fail
variable {f' : D → D → Option D}
@[simp] theorem q_kCh1t {e : D} : kCh1 f' c env e (some (.bl true)) = M.bind (c env) (kCh2 f' e) := rfl
@[simp] theorem q_kCh1f {e : D} : kCh1 f' c env e (some (.bl false)) = M.ret (.bl false) := rfl
def kCh0 (f f' : D → D → Option D) (c : En S D) (env : List Sl) (d e : D) : M S D := kCh1 f' c env e (f d e)
@[simp] theorem q_kCh0 {e : D} : kCh0 f f' c env d e = kCh1 f' c env e (f d e) := rfl
def kCha (f f' : D → D → Option D) (b c : En S D) (env : List Sl) (d : D) : M S D := M.bind (b env) (kCh0 f f' c env d)
@[simp] theorem q_kCha : kCha f f' b c env d = M.bind (b env) (kCh0 f f' c env d) := rfl
@[simp] theorem q_eChain : eChain f f' a b c env = M.bind (a env) (kCha f f' b c env) := by
  unfold eChain
  rfl
def kAnd (u : En S Bool) (env : List Sl) (q : Bool) : M S Bool := if q = true then u env else M.ret false
@[simp] theorem q_kAnd1 : kAnd u env true = u env := rfl
@[simp] theorem q_kAnd2 : kAnd u env false = M.ret false := rfl
@[simp] theorem q_tAnd2 : tAnd2 t u env = M.bind (t env) (kAnd u env) := rfl
def kOr (u : En S Bool) (env : List Sl) (q : Bool) : M S Bool := if q = true then M.ret true else u env
@[simp] theorem q_kOr1 : kOr u env true = M.ret true := rfl
@[simp] theorem q_kOr2 : kOr u env false = u env := rfl
@[simp] theorem q_tOr2 : tOr2 t u env = M.bind (t env) (kOr u env) := rfl
def kNot (q : Bool) : M S Bool := M.ret (!q)
@[simp] theorem q_kNot {q : Bool} : (kNot q : M S Bool) = M.ret (!q) := rfl
@[simp] theorem q_tNot1 : tNot1 t env = M.bind (t env) kNot := rfl
def kAndE (b : En S D) (env : List Sl) (d : D) : M S D := match d with
  | .bl true => b env
  | .bl false => M.ret (.bl false)
  | _ => M.fail
@[simp] theorem q_kAndE1 : kAndE b env (.bl true) = b env := rfl
@[simp] theorem q_kAndE2 : kAndE b env (.bl false) = M.ret (.bl false) := rfl
@[simp] theorem q_eAnd2 : eAnd2 a b env = M.bind (a env) (kAndE b env) := by
  unfold eAnd2
  rfl
def kOrE (b : En S D) (env : List Sl) (d : D) : M S D := match d with
  | .bl true => M.ret (.bl true)
  | .bl false => b env
  | _ => M.fail
@[simp] theorem q_kOrE1 : kOrE b env (.bl true) = M.ret (.bl true) := rfl
@[simp] theorem q_kOrE2 : kOrE b env (.bl false) = b env := rfl
@[simp] theorem q_eOr2 : eOr2 a b env = M.bind (a env) (kOrE b env) := by
  unfold eOr2
  rfl
def kNotE (d : D) : M S D := match d with
  | .bl b => M.ret (.bl (!b))
  | _ => M.fail
@[simp] theorem q_kNotE {q : Bool} : (kNotE (.bl q) : M S D) = M.ret (.bl (!q)) := rfl
@[simp] theorem q_eNot1 : eNot1 a env = M.bind (a env) kNotE := by
  unfold eNot1
  rfl
@[simp] theorem q_eIf : eIf t a b env = M.bind (t env) (kIf a b env) := rfl
def kOf (g : List D → Option (List D)) (ds : List D) : M S (List D) := M.ofO (g ds)
@[simp] theorem q_kOf {g : List D → Option (List D)} : (kOf g ds : M S (List D)) = M.ofO (g ds) := rfl
@[simp] theorem q_iOf {g : List D → Option (List D)} : iOf g mr env = M.bind (mr env) (kOf g) := rfl
def kIts (d : D) : M S (List D) := M.ofO (dItems d)
@[simp] theorem q_kIts : (kIts d : M S (List D)) = M.ofO (dItems d) := rfl
@[simp] theorem q_iSeq : iSeq m env = M.bind (m env) kIts := rfl
def kEnum (l : List D) : M S (List D) := match l with
  | [d] => M.ofO ((dItems d).map enumD)
  | _ => M.fail
@[simp] theorem q_kEnum : (kEnum [d] : M S (List D)) = M.ofO ((dItems d).map enumD) := rfl
@[simp] theorem q_iEnum : iEnum mr env = M.bind (mr env) kEnum := by
  unfold iEnum
  rfl
def kZip2 (o p : Option (List D)) : M S (List D) := match o, p with
  | some ds, some es => M.ret (zipD ds es)
  | _, _ => M.fail
@[simp] theorem q_kZip2 {es : List D} : (kZip2 (some ds) (some es) : M S (List D)) = M.ret (zipD ds es) := rfl
def kZip (l : List D) : M S (List D) := match l with
  | [d, e] => kZip2 (dItems d) (dItems e)
  | _ => M.fail
@[simp] theorem q_kZip {e : D} : (kZip [d, e] : M S (List D)) = kZip2 (dItems d) (dItems e) := rfl
@[simp] theorem q_iZip : iZip mr env = M.bind (mr env) kZip := by
  unfold iZip
  rfl
def kLc2 (r : List D) : M S D := M.ret (.lst r)
@[simp] theorem q_kLc2 : (kLc2 ds : M S D) = M.ret (.lst ds) := rfl
def kLc1 (al vs : List Nat) (tg : D → List Sl → Option (List Sl)) (t : En S Bool) (m : En S D) (env : List Sl) (ds : List D) : M S D :=
  if ds.length ≤ 16777216 then M.bind (compD tg t m ds (wipeE (rdo al env) vs)) kLc2 else M.fail
theorem q_kLc1 (h : ds.length ≤ 16777216) : kLc1 al vs tg t m env ds = M.bind (compD tg t m ds (wipeE (rdo al env) vs)) kLc2 := if_pos h
@[simp] theorem q_eLc {mi : En S (List D)} : eLc al vs mi tg t m env = M.bind (mi env) (kLc1 al vs tg t m env) := rfl
@[simp] theorem q_tYesD : (tYesD env : M S Bool) = M.ret true := rfl
def kInS1 (neg : Bool) (l : List Key) (o : Option Key) : M S Bool := match o with
  | some k => M.ret (if neg = true then !memK l k else memK l k)
  | none => M.fail
@[simp] theorem q_kInS1 {neg : Bool} {l : List Key} {k : Key} : (kInS1 neg l (some k) : M S Bool) = M.ret (if neg = true then !memK l k else memK l k) := rfl
def kInS0 (neg : Bool) (d : D) (o : Option Sl) : M S Bool := match o with
  | some (.ow (.st l)) => kInS1 neg l (keyOf d)
  | _ => M.fail
@[simp] theorem q_kInS0 {neg : Bool} {l : List Key} : (kInS0 neg d (some (.ow (.st l))) : M S Bool) = kInS1 neg l (keyOf d) := rfl
def kInS (neg : Bool) (i : Nat) (env : List Sl) (d : D) : M S Bool := kInS0 neg d (env[i]?)
@[simp] theorem q_kInS {neg : Bool} : (kInS neg i env d : M S Bool) = kInS0 neg d (env[i]?) := rfl
@[simp] theorem q_tInS {neg : Bool} : tInS neg i m env = M.bind (m env) (kInS neg i env) := by
  unfold tInS
  rfl
@[simp] theorem q_tgN : tgN i d env = some (env.set i (.fz d)) := rfl
@[simp] theorem q_tgNil : tgNil [] env = some env := rfl
@[simp] theorem q_tgCons {us : List D → List Sl → Option (List Sl)} : tgCons tg us (d :: ds) env = (tg d env).bind (us ds) := rfl
theorem q_tgTup {us : List D → List Sl → Option (List Sl)} (h : ds.length = n) : tgTup n us (.tup ds) env = us ds env := if_pos h
@[simp] theorem q_tgTup2 {us : List D → List Sl → Option (List Sl)} {d1 d2 : D} : tgTup 2 us (.tup [d1, d2]) env = us [d1, d2] env := rfl
@[simp] theorem q_tgTup3 {us : List D → List Sl → Option (List Sl)} {d1 d2 d3 : D} : tgTup 3 us (.tup [d1, d2, d3]) env = us [d1, d2, d3] env := rfl
@[simp] theorem q_frz_nil : frz [] env = env := rfl
@[simp] theorem q_esc_nil : esc [] d env = env := rfl
@[simp] theorem q_escI_nil : escI [] d env = env := rfl
theorem q_esc_hard (h : d.hard = true) : esc al d env = env := by
  unfold esc
  split
  · rfl
  · rw [if_pos h]
theorem q_escI_hard (h : d.hardIn = true) : escI al d env = env := by
  unfold escI
  split
  · rfl
  · rw [if_pos h]
@[simp] theorem q_esc_int {j : Int} : esc al (.int j) env = env := q_esc_hard rfl
@[simp] theorem q_esc_str {j : Str} : esc al (.str j) env = env := q_esc_hard rfl
@[simp] theorem q_esc_bl {j : Bool} : esc al (.bl j) env = env := q_esc_hard rfl
@[simp] theorem q_esc_non : esc al .non env = env := q_esc_hard rfl
@[simp] theorem q_esc_opq {v : V} : esc al (.opq v) env = env := q_esc_hard rfl
theorem q_wipeE {v : Nat} : wipeE env (v :: vs) = (wipeE env vs).set v .no := rfl
@[simp] theorem q_wipeE1 {v : Nat} : wipeE env [v] = env.set v .no := rfl
@[simp] theorem q_wipeE2 {v v2 : Nat} : wipeE env [v, v2] = (env.set v2 .no).set v .no := rfl
def rdo1 (al : List Nat) (i : Nat) (sl : Sl) : Sl := match sl with
  | .ow d => if al.contains i && !d.isSt then .fz d else .no
  | x => x
theorem q_rdo : rdo al env = env.mapIdx (rdo1 al) := rfl
@[simp] theorem q_rdo1a : rdo1 al i (.fz d) = .fz d := rfl
@[simp] theorem q_rdo1b : rdo1 al i .no = .no := rfl
@[simp] theorem q_rdo1c {l : List D} : rdo1 al i (.ow (.lst l)) = if al.contains i then .fz (.lst l) else .no := by
  unfold rdo1
  simp [D.isSt]
/-! operations -/
@[simp] theorem q_dSub (i j : Int) : dSub (.int i) (.int j) = some (.int (i - j)) := rfl
@[simp] theorem q_dLt (i j : Int) : dLt (.int i) (.int j) = some (.bl (decide (i < j))) := rfl
@[simp] theorem q_dLe (i j : Int) : dLe (.int i) (.int j) = some (.bl (decide (i ≤ j))) := rfl
@[simp] theorem q_dGt (i j : Int) : dGt (.int i) (.int j) = some (.bl (decide (j < i))) := rfl
@[simp] theorem q_dGe (i j : Int) : dGe (.int i) (.int j) = some (.bl (decide (j ≤ i))) := rfl
@[simp] theorem q_dAddI (i j : Int) : dAdd (.int i) (.int j) = some (.int (i + j)) := rfl
theorem q_dAddT {l r : List D} (h : l.length + r.length ≤ 16777216) : dAdd (.tup l) (.tup r) = some (.tup (l ++ r)) := if_pos h
theorem q_dAddL {l r : List D} (h : l.length + r.length ≤ 16777216) : dAdd (.lst l) (.lst r) = some (.lst (l ++ r)) := if_pos h
theorem q_dMod (i j : Int) (h : 0 < j) : dMod (.int i) (.int j) = some (.int (i % j)) := if_pos h
theorem q_dDiv (i j : Int) (h : 0 < j ∧ j.natAbs < 1073741824) : dDiv (.int i) (.int j) = some (.int (i / j)) := if_pos h
@[simp] theorem q_dNeg (i : Int) : dNeg (.int i) = some (.int (-i)) := rfl
@[simp] theorem q_ixT (l : List D) (i : Int) : dIx (.tup l) (.int i) = atI l i := rfl
@[simp] theorem q_ixL (l : List D) (i : Int) : dIx (.lst l) (.int i) = atI l i := rfl
@[simp] theorem q_at0 {d : D} {l : List D} : atI (d :: l) 0 = some d := by
  have := atI_nat (xs := d :: l) (j := 0) (v := d) rfl
  simpa using this
theorem q_atN {l : List D} {j : Nat} {d : D} (h : l[j]? = some d) : atI l (j : Int) = some d := atI_nat h
@[simp] theorem q_at1 {d e : D} {l : List D} : atI (d :: e :: l) 1 = some e := atI_nat (xs := d :: e :: l) (j := 1) (v := e) rfl
@[simp] theorem q_at2 {d e f : D} {l : List D} : atI (d :: e :: f :: l) 2 = some f := atI_nat (xs := d :: e :: f :: l) (j := 2) (v := f) rfl
@[simp] theorem q_at3 {d e f g : D} {l : List D} : atI (d :: e :: f :: g :: l) 3 = some g := atI_nat (xs := d :: e :: f :: g :: l) (j := 3) (v := g) rfl
@[simp] theorem q_lenS (x : Str) : dLen [.str x] = some (.int x.length) := rfl
@[simp] theorem q_lenT (l : List D) : dLen [.tup l] = some (.int l.length) := rfl
@[simp] theorem q_lenL (l : List D) : dLen [.lst l] = some (.int l.length) := rfl
@[simp] theorem q_itT (l : List D) : dItems (.tup l) = some l := rfl
@[simp] theorem q_itL (l : List D) : dItems (.lst l) = some l := rfl
@[simp] theorem q_itS (x : Str) : dItems (.str x) = some (charsD x) := rfl
@[simp] theorem q_tupT (l : List D) : dTuple [.tup l] = some (.tup l) := rfl
@[simp] theorem q_tupL (l : List D) : dTuple [.lst l] = some (.tup l) := rfl
@[simp] theorem q_int (i : Int) : dInt [.int i] = some (.int i) := rfl
@[simp] theorem q_listL (l : List D) : dList2 [.lst l] = some (.lst l) := rfl
@[simp] theorem q_listT (l : List D) : dList2 [.tup l] = some (.lst l) := rfl
theorem q_listD {l : List (Key × D)} (h : (l.all fun p => okK p.1) = true) : dList2 [.dct l] = some (.lst (l.map fun p => keyD p.1)) := if_pos h
@[simp] theorem q_dct0 : (eDct0 env : M S D) = M.ret (.dct []) := rfl
@[simp] theorem q_revL (l : List D) : dRev (.lst l) = some (.lst l.reverse) := rfl
def kIdx (d e : D) : M S D := M.ofO (dIdx d e)
@[simp] theorem q_kIdx {e : D} : (kIdx d e : M S D) = M.ofO (dIdx d e) := rfl
@[simp] theorem q_kIdxL {l : List D} : kIdxL m env (.lst l) = M.bind (m env) (kIdx (.lst l)) := rfl
@[simp] theorem q_kIdxT {l : List D} : kIdxT m env (.tup l) = M.bind (m env) (kIdx (.tup l)) := rfl
@[simp] theorem q_eIdxL : eIdxL a m env = M.bind (a env) (kIdxL m env) := rfl
@[simp] theorem q_eIdxT : eIdxT a m env = M.bind (a env) (kIdxT m env) := rfl
@[simp] theorem q_set0 : dSet0 [] = some (.st []) := rfl
@[simp] theorem q_keyS (x : Str) : keyOf (.str x) = some (.inr x) := rfl
@[simp] theorem q_keyI (x : Int) : keyOf (.int x) = some (.inl x) := rfl
@[simp] theorem q_cutT (l : List D) (lo hi : Option Int) : dCut (.tup l) lo hi = some (.tup (cutD l lo hi)) := rfl
@[simp] theorem q_cutL (l : List D) (lo hi : Option Int) : dCut (.lst l) lo hi = some (.lst (cutD l lo hi)) := rfl
@[simp] theorem q_max2 (i j : Int) : dMax2 [.int i, .int j] = some (.int (if j > i then j else i)) := rfl
@[simp] theorem q_min2 (i j : Int) : dMin2 [.int i, .int j] = some (.int (if j < i then j else i)) := rfl
@[simp] theorem q_isN0 : dIs .non .non = some (.bl true) := rfl
@[simp] theorem q_isNot0 : dIsNot .non .non = some (.bl false) := rfl
@[simp] theorem q_is_str (x : Str) : dIs (.str x) .non = some (.bl false) := rfl
@[simp] theorem q_isNot_str (x : Str) : dIsNot (.str x) .non = some (.bl true) := rfl
@[simp] theorem q_is_int (x : Int) : dIs (.int x) .non = some (.bl false) := rfl
@[simp] theorem q_isNot_int (x : Int) : dIsNot (.int x) .non = some (.bl true) := rfl
@[simp] theorem q_is_bl (x : Bool) : dIs (.bl x) .non = some (.bl false) := rfl
@[simp] theorem q_isNot_bl (x : Bool) : dIsNot (.bl x) .non = some (.bl true) := rfl
@[simp] theorem q_is_tup (x : List D) : dIs (.tup x) .non = some (.bl false) := rfl
@[simp] theorem q_isNot_tup (x : List D) : dIsNot (.tup x) .non = some (.bl true) := rfl
@[simp] theorem q_is_lst (x : List D) : dIs (.lst x) .non = some (.bl false) := rfl
@[simp] theorem q_isNot_lst (x : List D) : dIsNot (.lst x) .non = some (.bl true) := rfl
@[simp] theorem q_is_dct (x : List (Key × D)) : dIs (.dct x) .non = some (.bl false) := rfl
@[simp] theorem q_isNot_dct (x : List (Key × D)) : dIsNot (.dct x) .non = some (.bl true) := rfl
@[simp] theorem q_isi_str_bool (x : Str) : dIsi [(.str x), .opq (.ty "bool")] = some (.bl false) := by kernel_rfl
@[simp] theorem q_isi_str_int (x : Str) : dIsi [(.str x), .opq (.ty "int")] = some (.bl false) := by kernel_rfl
@[simp] theorem q_isi_str_str (x : Str) : dIsi [(.str x), .opq (.ty "str")] = some (.bl true) := by kernel_rfl
@[simp] theorem q_isi_str_tuple (x : Str) : dIsi [(.str x), .opq (.ty "tuple")] = some (.bl false) := by kernel_rfl
@[simp] theorem q_isi_str_list (x : Str) : dIsi [(.str x), .opq (.ty "list")] = some (.bl false) := by kernel_rfl
@[simp] theorem q_isi_str_dict (x : Str) : dIsi [(.str x), .opq (.ty "dict")] = some (.bl false) := by kernel_rfl
@[simp] theorem q_isi_int_bool (x : Int) : dIsi [(.int x), .opq (.ty "bool")] = some (.bl false) := by kernel_rfl
@[simp] theorem q_isi_int_int (x : Int) : dIsi [(.int x), .opq (.ty "int")] = some (.bl true) := by kernel_rfl
@[simp] theorem q_isi_int_str (x : Int) : dIsi [(.int x), .opq (.ty "str")] = some (.bl false) := by kernel_rfl
@[simp] theorem q_isi_int_tuple (x : Int) : dIsi [(.int x), .opq (.ty "tuple")] = some (.bl false) := by kernel_rfl
@[simp] theorem q_isi_int_list (x : Int) : dIsi [(.int x), .opq (.ty "list")] = some (.bl false) := by kernel_rfl
@[simp] theorem q_isi_int_dict (x : Int) : dIsi [(.int x), .opq (.ty "dict")] = some (.bl false) := by kernel_rfl
@[simp] theorem q_isi_bl_bool (x : Bool) : dIsi [(.bl x), .opq (.ty "bool")] = some (.bl true) := by kernel_rfl
@[simp] theorem q_isi_bl_int (x : Bool) : dIsi [(.bl x), .opq (.ty "int")] = some (.bl true) := by kernel_rfl
@[simp] theorem q_isi_bl_str (x : Bool) : dIsi [(.bl x), .opq (.ty "str")] = some (.bl false) := by kernel_rfl
@[simp] theorem q_isi_bl_tuple (x : Bool) : dIsi [(.bl x), .opq (.ty "tuple")] = some (.bl false) := by kernel_rfl
@[simp] theorem q_isi_bl_list (x : Bool) : dIsi [(.bl x), .opq (.ty "list")] = some (.bl false) := by kernel_rfl
@[simp] theorem q_isi_bl_dict (x : Bool) : dIsi [(.bl x), .opq (.ty "dict")] = some (.bl false) := by kernel_rfl
@[simp] theorem q_isi_tup_bool (x : List D) : dIsi [(.tup x), .opq (.ty "bool")] = some (.bl false) := by kernel_rfl
@[simp] theorem q_isi_tup_int (x : List D) : dIsi [(.tup x), .opq (.ty "int")] = some (.bl false) := by kernel_rfl
@[simp] theorem q_isi_tup_str (x : List D) : dIsi [(.tup x), .opq (.ty "str")] = some (.bl false) := by kernel_rfl
@[simp] theorem q_isi_tup_tuple (x : List D) : dIsi [(.tup x), .opq (.ty "tuple")] = some (.bl true) := by kernel_rfl
@[simp] theorem q_isi_tup_list (x : List D) : dIsi [(.tup x), .opq (.ty "list")] = some (.bl false) := by kernel_rfl
@[simp] theorem q_isi_tup_dict (x : List D) : dIsi [(.tup x), .opq (.ty "dict")] = some (.bl false) := by kernel_rfl
@[simp] theorem q_isi_lst_bool (x : List D) : dIsi [(.lst x), .opq (.ty "bool")] = some (.bl false) := by kernel_rfl
@[simp] theorem q_isi_lst_int (x : List D) : dIsi [(.lst x), .opq (.ty "int")] = some (.bl false) := by kernel_rfl
@[simp] theorem q_isi_lst_str (x : List D) : dIsi [(.lst x), .opq (.ty "str")] = some (.bl false) := by kernel_rfl
@[simp] theorem q_isi_lst_tuple (x : List D) : dIsi [(.lst x), .opq (.ty "tuple")] = some (.bl false) := by kernel_rfl
@[simp] theorem q_isi_lst_list (x : List D) : dIsi [(.lst x), .opq (.ty "list")] = some (.bl true) := by kernel_rfl
@[simp] theorem q_isi_lst_dict (x : List D) : dIsi [(.lst x), .opq (.ty "dict")] = some (.bl false) := by kernel_rfl
@[simp] theorem q_isi_dct_bool (x : List (Key × D)) : dIsi [(.dct x), .opq (.ty "bool")] = some (.bl false) := by kernel_rfl
@[simp] theorem q_isi_dct_int (x : List (Key × D)) : dIsi [(.dct x), .opq (.ty "int")] = some (.bl false) := by kernel_rfl
@[simp] theorem q_isi_dct_str (x : List (Key × D)) : dIsi [(.dct x), .opq (.ty "str")] = some (.bl false) := by kernel_rfl
@[simp] theorem q_isi_dct_tuple (x : List (Key × D)) : dIsi [(.dct x), .opq (.ty "tuple")] = some (.bl false) := by kernel_rfl
@[simp] theorem q_isi_dct_list (x : List (Key × D)) : dIsi [(.dct x), .opq (.ty "list")] = some (.bl false) := by kernel_rfl
@[simp] theorem q_isi_dct_dict (x : List (Key × D)) : dIsi [(.dct x), .opq (.ty "dict")] = some (.bl true) := by kernel_rfl
@[simp] theorem q_isi_non_bool  : dIsi [.non, .opq (.ty "bool")] = some (.bl false) := by kernel_rfl
@[simp] theorem q_isi_non_int  : dIsi [.non, .opq (.ty "int")] = some (.bl false) := by kernel_rfl
@[simp] theorem q_isi_non_str  : dIsi [.non, .opq (.ty "str")] = some (.bl false) := by kernel_rfl
@[simp] theorem q_isi_non_tuple  : dIsi [.non, .opq (.ty "tuple")] = some (.bl false) := by kernel_rfl
@[simp] theorem q_isi_non_list  : dIsi [.non, .opq (.ty "list")] = some (.bl false) := by kernel_rfl
@[simp] theorem q_isi_non_dict  : dIsi [.non, .opq (.ty "dict")] = some (.bl false) := by kernel_rfl
/-! what compares -/
@[simp] theorem q_cmpS (x : Str) : (D.str x).cmp = true := rfl
@[simp] theorem q_cmpI (x : Int) : (D.int x).cmp = true := rfl
@[simp] theorem q_cmpB (x : Bool) : (D.bl x).cmp = true := rfl
@[simp] theorem q_cmpN : D.non.cmp = true := rfl
/-- data of depth at most n -/
def D.dp (n : Nat) (d : D) : Prop := d.isPy = true ∧ d.dep ≤ n
theorem D.dp.cmp {n : Nat} {d : D} (h : d.dp n) (hn : n ≤ 60 := by decide) : d.cmp = true := by
  unfold D.cmp
  rw [h.1, Bool.true_and]
  exact decide_eq_true (Nat.le_trans h.2 hn)
theorem dp_py {l : List D} {n : Nat} (h : ∀ d ∈ l, d.dp n) : arePy l = true ∧ deps l ≤ n := by
  induction l with
  | nil => exact ⟨rfl, Nat.zero_le _⟩
  | cons d l ih =>
    obtain ⟨h1, h2⟩ := ih fun e he => h e (List.mem_cons_of_mem _ he)
    obtain ⟨h3, h4⟩ := h d List.mem_cons_self
    exact ⟨by simp only [arePy, h3, h1, Bool.true_and], by simp only [deps]; exact Nat.max_le.mpr ⟨h4, h2⟩⟩
theorem dp_tup {l : List D} {n : Nat} (h : ∀ d ∈ l, d.dp n) : (D.tup l).dp (n + 1) := ⟨by simp only [D.isPy]; exact (dp_py h).1, by simp only [D.dep]; exact Nat.succ_le_succ (dp_py h).2⟩
theorem dp_lst {l : List D} {n : Nat} (h : ∀ d ∈ l, d.dp n) : (D.lst l).dp (n + 1) := ⟨by simp only [D.isPy]; exact (dp_py h).1, by simp only [D.dep]; exact Nat.succ_le_succ (dp_py h).2⟩
theorem D.dp.up {n m : Nat} {d : D} (h : d.dp n) (le : n ≤ m) : d.dp m := ⟨h.1, Nat.le_trans h.2 le⟩
theorem dp_str {x : Str} {n : Nat} : (D.str x).dp n := ⟨rfl, Nat.zero_le _⟩
theorem dp_int {x : Int} {n : Nat} : (D.int x).dp n := ⟨rfl, Nat.zero_le _⟩
theorem dp_bl {x : Bool} {n : Nat} : (D.bl x).dp n := ⟨rfl, Nat.zero_le _⟩
theorem dp_non {n : Nat} : D.non.dp n := ⟨rfl, Nat.zero_le _⟩
theorem dp_strs {l : List Str} {n : Nat} : ∀ d ∈ l.map D.str, d.dp n := fun d h => by obtain ⟨x, _, rfl⟩ := List.mem_map.mp h; exact dp_str
theorem dp_ints {l : List Int} {n : Nat} : ∀ d ∈ l.map D.int, d.dp n := fun d h => by obtain ⟨x, _, rfl⟩ := List.mem_map.mp h; exact dp_int
theorem q_dEq {d e : D} (h : d.cmp = true) (h2 : e.cmp = true) : dEq d e = some (.bl (d.eqv e)) := by unfold dEq; rw [h, h2]; rfl
theorem q_dNe {d e : D} (h : d.cmp = true) (h2 : e.cmp = true) : dNe d e = some (.bl (!d.eqv e)) := by unfold dNe; rw [h, h2]; rfl
theorem q_inT {d : D} {l : List D} (h : d.cmp = true) (h2 : (D.tup l).cmp = true) : dIn d (.tup l) = some (.bl (dHas d l)) := by unfold dIn dInB; simp only [h, h2, Bool.and_self, if_true]; rfl
theorem q_inL {d : D} {l : List D} (h : d.cmp = true) (h2 : (D.lst l).cmp = true) : dIn d (.lst l) = some (.bl (dHas d l)) := by unfold dIn dInB; simp only [h, h2, Bool.and_self, if_true]; rfl
theorem q_notInT {d : D} {l : List D} (h : d.cmp = true) (h2 : (D.tup l).cmp = true) : dNotIn d (.tup l) = some (.bl (!dHas d l)) := by unfold dNotIn dInB; simp only [h, h2, Bool.and_self, if_true]; rfl
theorem q_notInL {d : D} {l : List D} (h : d.cmp = true) (h2 : (D.lst l).cmp = true) : dNotIn d (.lst l) = some (.bl (!dHas d l)) := by unfold dNotIn dInB; simp only [h, h2, Bool.and_self, if_true]; rfl
@[simp] theorem q_eqvSS (x y : Str) : (D.str x).eqv (.str y) = decide (x = y) := by
  simp only [D.eqv]
  by_cases h : x = y <;> simp [h]
@[simp] theorem q_eqvII (x y : Int) : (D.int x).eqv (.int y) = decide (x = y) := by
  simp only [D.eqv]
  by_cases h : x = y <;> simp [h]
@[simp] theorem q_eqvBB (x y : Bool) : (D.bl x).eqv (.bl y) = decide (x = y) := by
  simp only [D.eqv]
  cases x <;> cases y <;> rfl
@[simp] theorem q_eqvSN (x : Str) : (D.str x).eqv .non = false := rfl
@[simp] theorem q_eqvSI (x : Str) (i : Int) : (D.str x).eqv (.int i) = false := rfl
@[simp] theorem q_dEqII (x y : Int) : dEq (.int x) (.int y) = some (.bl (decide (x = y))) := by rw [q_dEq rfl rfl, q_eqvII]
@[simp] theorem q_dNeII (x y : Int) : dNe (.int x) (.int y) = some (.bl (!decide (x = y))) := by rw [q_dNe rfl rfl, q_eqvII]
@[simp] theorem q_dEqSS (x y : Str) : dEq (.str x) (.str y) = some (.bl (decide (x = y))) := by rw [q_dEq rfl rfl, q_eqvSS]
@[simp] theorem q_dNeSS (x y : Str) : dNe (.str x) (.str y) = some (.bl (!decide (x = y))) := by rw [q_dNe rfl rfl, q_eqvSS]
@[simp] theorem q_hasSS (x : Str) (l : List Str) : dHas (.str x) (l.map D.str) = l.contains x := by
  unfold dHas
  induction l with
  | nil => rfl
  | cons y l ih =>
    rw [List.map_cons, List.any_cons, q_eqvSS, ih, List.contains_cons]
    by_cases h : y = x
    · subst h; simp
    · have : ¬ x = y := fun z => h z.symm
      simp [h, this]
@[simp] theorem q_hasII (x : Int) (l : List Int) : dHas (.int x) (l.map D.int) = l.contains x := by
  unfold dHas
  induction l with
  | nil => rfl
  | cons y l ih =>
    rw [List.map_cons, List.any_cons, q_eqvII, ih, List.contains_cons]
    by_cases h : y = x
    · subst h; simp
    · have : ¬ x = y := fun z => h z.symm
      simp [h, this]
@[simp] theorem q_inStrs (x : Str) (l : List Str) : dIn (.str x) (.tup (l.map D.str)) = some (.bl (l.contains x)) := by rw [q_inT rfl ((dp_tup (n := 0) dp_strs).cmp), q_hasSS]
@[simp] theorem q_notInStrs (x : Str) (l : List Str) : dNotIn (.str x) (.tup (l.map D.str)) = some (.bl (!l.contains x)) := by rw [q_notInT rfl ((dp_tup (n := 0) dp_strs).cmp), q_hasSS]
@[simp] theorem q_inInts (x : Int) (l : List Int) : dIn (.int x) (.tup (l.map D.int)) = some (.bl (l.contains x)) := by rw [q_inT rfl ((dp_tup (n := 0) dp_ints).cmp), q_hasII]
@[simp] theorem q_notInInts (x : Int) (l : List Int) : dNotIn (.int x) (.tup (l.map D.int)) = some (.bl (!l.contains x)) := by rw [q_notInT rfl ((dp_tup (n := 0) dp_ints).cmp), q_hasII]
theorem str_inj {s t : String} : Str.ofString s = Str.ofString t ↔ s = t := by
  constructor
  · intro h
    rw [Str.ofString_eq_toList, Str.ofString_eq_toList] at h
    injection h with h
    have h := congrArg Array.toList h
    have h : s.toList.map Char.toNat = t.toList.map Char.toNat := h
    have : s.toList = t.toList := (List.map_inj_right fun a b e => Char.toNat_inj.mp e).mp h
    exact String.toList_inj.mp this
  · rintro rfl; rfl
/-! the loop of a comprehension -/
theorem compD_filter {tgt : D → List Sl → Option (List Sl)} {tst : En S Bool} {elt : En S D} {p : D → Bool} {f : D → D} : ∀ {ds : List D}, (∀ d ∈ ds, ∃ e, tgt d env = some e ∧ tst e = M.ret (p d) ∧ (p d = true → elt e = M.ret (f d))) → compD tgt tst elt ds env = M.ret ((ds.filter p).map f)
  | [], _ => rfl
  | d :: ds, h => by
    obtain ⟨e, h1, h2, h3⟩ := h d List.mem_cons_self
    have ih := compD_filter fun x hx => h x (List.mem_cons_of_mem _ hx)
    unfold compD
    rw [h1]
    dsimp only
    rw [h2, q_noex_ret, q_bind_ret]
    cases hp : p d with
    | true => rw [if_pos rfl, h3 hp, q_noex_ret, q_bind_ret, ih, q_bind_ret, List.filter_cons_of_pos hp]; rfl
    | false => rw [if_neg Bool.false_ne_true, ih, List.filter_cons_of_neg (by rw [hp]; exact Bool.false_ne_true)]
theorem compD_map {tgt : D → List Sl → Option (List Sl)} {tst : En S Bool} {elt : En S D} {f : D → D} {ds : List D} (h : ∀ d ∈ ds, ∃ e, tgt d env = some e ∧ tst e = M.ret true ∧ elt e = M.ret (f d)) : compD tgt tst elt ds env = M.ret (ds.map f) := by
  rw [compD_filter (p := fun _ => true) (f := f) fun d hd => by obtain ⟨e, h1, h2, h3⟩ := h d hd; exact ⟨e, h1, h2, fun _ => h3⟩]
  congr 1
  exact congrArg (List.map f) (List.filter_eq_self.mpr fun _ _ => rfl)
end
end DD
namespace DD
open PySem PySem.Spec PyProof.Rows L2
section
variable {S : Type} {tg : D → List Sl → Option (List Sl)} {x : En S Fl} {ds : List D} {e : List Sl}
/-- a loop that runs through; Inv by the turns done -/
theorem forD_thru (Inv : Nat → List Sl → Prop) (h : ∀ (i : Nat) (d : D) (e : List Sl), ds[i]? = some d → Inv i e → ∃ e1, tg d e = some e1 ∧ ∃ e2, (x e1 = M.ret (.nx e2) ∨ x e1 = M.ret (.ct e2)) ∧ Inv (i + 1) e2) (h0 : Inv 0 e) :
    ∃ e', forD tg x ds e = M.ret (.nx e') ∧ Inv ds.length e' := by
  induction ds generalizing e Inv with
  | nil => exact ⟨e, rfl, h0⟩
  | cons d ds ih =>
    obtain ⟨e1, h1, e2, h2, h3⟩ := h 0 d e rfl h0
    obtain ⟨e', h4, h5⟩ := ih (fun i => Inv (i + 1)) (fun i d e hd hi => h (i + 1) d e hd hi) h3
    refine ⟨e', ?_, h5⟩
    rw [q_forD_cons, h1, q_kForO]
    rcases h2 with h2 | h2
    · rw [h2, q_bind_ret, q_kForF1, h4]
    · rw [h2, q_bind_ret, q_kForF2, h4]
/-- a loop that ends at turn j: by a return, a break, an exception -/
theorem forD_stop (Inv : Nat → List Sl → Prop) {j : Nat} {dj : D} (h : ∀ (i : Nat) (d : D) (e : List Sl), i < j → ds[i]? = some d → Inv i e → ∃ e1, tg d e = some e1 ∧ ∃ e2, (x e1 = M.ret (.nx e2) ∨ x e1 = M.ret (.ct e2)) ∧ Inv (i + 1) e2) (h0 : Inv 0 e)
    (hj : ds[j]? = some dj) {R : M S Fl → Prop} (hs : ∀ e, Inv j e → ∃ e1, tg dj e = some e1 ∧ ∀ k, R (M.bind (x e1) (kForF tg x k))) : R (forD tg x ds e) := by
  induction ds generalizing e Inv j with
  | nil => cases hj
  | cons d ds ih =>
    cases j with
    | zero =>
      cases hj
      obtain ⟨e1, h1, h2⟩ := hs e h0
      rw [q_forD_cons, h1, q_kForO]
      exact h2 ds
    | succ j =>
      obtain ⟨e1, h1, e2, h2, h3⟩ := h 0 d e (Nat.succ_pos _) rfl h0
      have h4 := ih (fun i => Inv (i + 1)) (fun i d e hi hd hi2 => h (i + 1) d e (Nat.succ_lt_succ hi) hd hi2) h3 hj hs
      rw [q_forD_cons, h1, q_kForO]
      rcases h2 with h2 | h2
      · rw [h2, q_bind_ret, q_kForF1]; exact h4
      · rw [h2, q_bind_ret, q_kForF2]; exact h4
theorem enumD_get {ds : List D} {i : Nat} {d : D} (h : (enumD ds)[i]? = some d) : ∃ z, ds[i]? = some z ∧ d = .tup [.int (i : Nat), z] := by
  unfold enumD at h
  rw [List.getElem?_mapIdx] at h
  obtain ⟨z, h1, h2⟩ := Option.map_eq_some_iff.mp h
  exact ⟨z, h1, h2.symm⟩
theorem zipD_get {ds es : List D} {i : Nat} {d : D} (h : (zipD ds es)[i]? = some d) : ∃ y z, ds[i]? = some y ∧ es[i]? = some z ∧ d = .tup [y, z] := by
  unfold zipD at h
  rw [List.getElem?_zipWith] at h
  cases h1 : ds[i]? with
  | none => rw [h1] at h; cases h
  | some y =>
    cases h2 : es[i]? with
    | none => rw [h1, h2] at h; cases h
    | some z =>
      rw [h1, h2] at h
      exact ⟨y, z, rfl, rfl, (Option.some.inj h).symm⟩
theorem rngD_get {lo : Int} {n i : Nat} {d : D} (h : (rngD lo n)[i]? = some d) : i < n ∧ d = .int (lo + (i : Nat)) := by
  unfold rngD at h
  rw [List.getElem?_map] at h
  obtain ⟨z, h1, h2⟩ := Option.map_eq_some_iff.mp h
  obtain ⟨hi, e⟩ := List.getElem?_eq_some_iff.mp h1
  simp at hi e
  subst e
  exact ⟨hi, h2.symm⟩
@[simp] theorem enumD_length {ds : List D} : (enumD ds).length = ds.length := by simp [enumD]
@[simp] theorem rngD_length {lo : Int} {n : Nat} : (rngD lo n).length = n := by simp [rngD]
@[simp] theorem zipD_length {ds es : List D} : (zipD ds es).length = min ds.length es.length := by simp [zipD]
theorem q_rng1 {n : Nat} (h : n ≤ 16777216) : dRng1 [.int (n : Int)] = some (rngD 0 n) := by
  unfold dRng1
  dsimp only
  rw [if_pos (by omega)]
  rfl
theorem q_rng2 {i n : Nat} (h1 : i ≤ 16777216) (h : n ≤ 16777216) : dRng2 [.int (i : Int), .int (n : Int)] = some (rngD i (n - i)) := by
  unfold dRng2
  dsimp only
  rw [if_pos (by omega)]
  congr 2
  omega
/-! with a state -/
def kComp {α β γ : Type} (f : α → M S β) (g : β → M S γ) (a : α) : M S γ := M.bind (f a) g
theorem q_kComp {α β γ : Type} {f : α → M S β} {g : β → M S γ} {a : α} : kComp f g a = M.bind (f a) g := rfl
theorem q_assoc {α β γ : Type} {m : M S α} {f : α → M S β} {g : β → M S γ} : M.bind (M.bind m f) g = M.bind m (kComp f g) := by
  funext s
  unfold M.bind kComp
  cases m s <;> rfl
theorem q_ret {α : Type} {a : α} {s : S} : (M.ret a : M S α) s = .ok a s := rfl
theorem compD_st {tst : En S Bool} {elt : En S D} {env : List Sl} (Q : D → D → Prop) : ∀ {ds : List D}, (∀ d ∈ ds, ∃ e, tg d env = some e ∧ tst e = M.ret true ∧ ∀ s, ∃ y s', elt e s = .ok y s' ∧ Q d y) → ∀ s, ∃ r s', compD tg tst elt ds env s = .ok r s' ∧ r.length = ds.length ∧ ∀ (i : Nat) d y, ds[i]? = some d → r[i]? = some y → Q d y
  | [], _, s => ⟨[], s, rfl, rfl, fun i d y h => by cases h⟩
  | d :: ds, h, s => by
    obtain ⟨e, h1, h2, h3⟩ := h d List.mem_cons_self
    obtain ⟨y, s1, h4, h5⟩ := h3 s
    obtain ⟨r, s2, h6, h7, h8⟩ := compD_st (ds := ds) Q (fun d hd => h d (List.mem_cons_of_mem _ hd)) s1
    refine ⟨y :: r, s2, ?_, by simp [h7], fun i d' y' hd hy => ?_⟩
    · rw [compD, h1]
      dsimp only
      rw [h2, q_noex_ret, q_bind_ret, if_pos rfl]
      have h4' : noex (elt e) s = .ok y s1 := by unfold noex; rw [h4]
      rw [bnd_ok h4', bnd_ok h6]
      rfl
    · cases i with
      | zero => cases hd; cases hy; exact h5
      | succ i => exact h8 i d' y' (by simpa using hd) (by simpa using hy)
theorem forD_thruS (Inv : Nat → List Sl → Prop) (h : ∀ (i : Nat) (d : D) (e : List Sl) (s : S), ds[i]? = some d → Inv i e → ∃ e1, tg d e = some e1 ∧ ∃ e2 s', (x e1 s = .ok (.nx e2) s' ∨ x e1 s = .ok (.ct e2) s') ∧ Inv (i + 1) e2) (h0 : Inv 0 e) (s : S) :
    ∃ e' s', forD tg x ds e s = .ok (.nx e') s' ∧ Inv ds.length e' := by
  induction ds generalizing e Inv s with
  | nil => exact ⟨e, s, rfl, h0⟩
  | cons d ds ih =>
    obtain ⟨e1, h1, e2, s1, h2, h3⟩ := h 0 d e s rfl h0
    obtain ⟨e', s', h4, h5⟩ := ih (fun i => Inv (i + 1)) (fun i d e s hd hi => h (i + 1) d e s hd hi) h3 s1
    refine ⟨e', s', ?_, h5⟩
    rw [q_forD_cons, h1, q_kForO]
    rcases h2 with h2 | h2
    · rw [bnd_ok h2, q_kForF1, h4]
    · rw [bnd_ok h2, q_kForF2, h4]
end
/-! cuts and places -/
section
variable {α : Type}
theorem cut_to (l : List α) (k : Nat) : cutD l none (some (k : Int)) = l.take k := by
  unfold cutD
  rw [HT.sIx_nat, HT.sIx_none, List.drop_zero, Nat.sub_zero]
  by_cases h : k ≤ l.length
  · rw [Nat.min_eq_left h]
  · rw [Nat.min_eq_right (by omega), List.take_length, List.take_of_length_le (by omega)]
theorem cut_from (l : List α) (k : Nat) : cutD l (some (k : Int)) none = l.drop k := by
  unfold cutD
  rw [HT.sIx_nat, HT.sIx_none]
  by_cases h : k ≤ l.length
  · rw [Nat.min_eq_left h]
    exact List.take_of_length_le (by simp)
  · rw [Nat.min_eq_right (by omega), List.drop_length, List.drop_of_length_le (by omega)]
    simp
theorem cut_map {β : Type} (f : α → β) (l : List α) (lo hi : Option Int) : cutD (l.map f) lo hi = (cutD l lo hi).map f := by
  unfold cutD
  rw [List.length_map, List.map_take, List.map_drop]
theorem q_putL {l : List D} {k : Nat} {d : D} (h : k < l.length) : putAt (.lst l) (.int (k : Int)) d = some (.lst (l.set k d)) := by
  unfold putAt
  dsimp only
  have : ixN l.length (k : Int) = some k := by
    unfold ixN
    rw [if_pos (by omega), if_pos (by omega), Int.toNat_natCast]
  rw [this]
  rfl
end
end DD
namespace DD
open PySem PySem.Spec PyProof.Rows L2
mutual
theorem eqv_refl : ∀ d : D, d.isPy = true → d.eqv d = true
  | .non, _ => rfl
  | .bl b, _ => by simp only [D.eqv]; exact beq_self_eq_true b
  | .int b, _ => by simp only [D.eqv]; exact beq_self_eq_true b
  | .str b, _ => by simp only [D.eqv]; exact beq_self_eq_true b
  | .opq _, h => by simp only [D.isPy] at h; cases h
  | .tup l, h => by
    simp only [D.isPy] at h
    simp only [D.eqv]
    exact eqvs_refl l h
  | .lst l, h => by
    simp only [D.isPy] at h
    simp only [D.eqv]
    exact eqvs_refl l h
  | .dct _, h => by simp only [D.isPy] at h; cases h
  | .st _, h => by simp only [D.isPy] at h; cases h
theorem eqvs_refl : ∀ l : List D, arePy l = true → eqvs l l = true
  | [], _ => rfl
  | d :: l, h => by
    simp only [arePy, Bool.and_eq_true] at h
    simp only [eqvs, eqv_refl d h.1, eqvs_refl l h.2, Bool.and_self]
end
theorem q_dNe_self {d : D} {n : Nat} (h : d.dp n) (hn : n ≤ 60 := by decide) : dNe d d = some (.bl false) := by
  rw [q_dNe (h.cmp hn) (h.cmp hn), eqv_refl d h.1]
  rfl
theorem q_dEq_self {d : D} {n : Nat} (h : d.dp n) (hn : n ≤ 60 := by decide) : dEq d d = some (.bl true) := by
  rw [q_dEq (h.cmp hn) (h.cmp hn), eqv_refl d h.1]
theorem q_try2 {S : Type} {i n : Nat} {x f1 f2 : Str} {fn : List D → M S D} {mr : En S (List D)} {env : List Sl} {ds : List D} {d1 d2 : D} (h1 : mr env = M.ret ds) (h2 : ds.length = n) (h3 : fn ds = M.exn x [(f2, d2), (f1, d1)]) (hne : f1 ≠ f2) (hd1 : d1.hard = true) (hd2 : d2.hard = true) (hi : i < env.length) :
    sTry2 i x f1 f2 fn n mr env = M.ret (.rt (.tup [d1, d2])) := by
  funext s
  show (match mr env s with | .ok ds s1 => if ds.length = n then tryRes i x f1 f2 env (fn ds s1) else .bad | _ => .bad) = _
  rw [h1]
  show (if ds.length = n then tryRes i x f1 f2 env (fn ds s) else .bad) = _
  rw [if_pos h2, h3]
  have b1 : (f1 == f2) = false := by simpa using hne
  have l1 : ([(f2, d2), (f1, d1)] : List (Str × D)).lookup f1 = some d1 := by
    rw [List.lookup_cons, b1]
    dsimp only
    rw [List.lookup_cons, beq_self_eq_true]
  have l2 : ([(f2, d2), (f1, d1)] : List (Str × D)).lookup f2 = some d2 := by rw [List.lookup_cons, beq_self_eq_true]
  show (if x = x then (match ([(f2, d2), (f1, d1)] : List (Str × D)).lookup f1, ([(f2, d2), (f1, d1)] : List (Str × D)).lookup f2 with
    | some d1, some d2 => if d1.hard && d2.hard && decide (i < env.length) then Out.ok (Fl.rt (.tup [d1, d2])) s else .bad
    | _, _ => .bad) else .bad) = _
  rw [if_pos rfl, l1, l2]
  dsimp only
  rw [hd1, hd2, decide_eq_true hi]
  rfl
theorem q_set_cut (l : List D) (k : Nat) (d : D) (h : k < l.length) : (cutD l none (some (k : Int)) ++ [d]) ++ cutD l (some ((k + 1 : Nat) : Int)) none = l.set k d := by
  rw [cut_to, cut_from, List.append_assoc]
  exact (List.set_eq_take_append_cons_drop (l := l) (i := k) (a := d)).symm ▸ by rw [if_pos h]; rfl
@[simp] theorem q_eqvNS (x : Str) : (D.str x).eqv .non = false := rfl
theorem has_non (l : List Str) : dHas .non (l.map D.str) = false := by
  unfold dHas
  rw [List.any_eq_false]
  intro d hd
  obtain ⟨x, _, rfl⟩ := List.mem_map.mp hd
  simp
theorem has_int (i : Int) (l : List Str) : dHas (.int i) (l.map D.str) = false := by
  unfold dHas
  rw [List.any_eq_false]
  intro d hd
  obtain ⟨x, _, rfl⟩ := List.mem_map.mp hd
  simp
/-! with a state, step by step -/
section
variable {S α β : Type} {s s1 : S}
theorem q_bs {m : M S α} {f : α → M S β} : M.bind m f s = match m s with | .ok a s' => f a s' | .ex c fs s' => .ex c fs s' | .bad => .bad := rfl
variable {A0 A1 : Addr} {env : List Sl} {a b : En JS D} {mr : En JS (List D)} {d : D} {i : Nat} {j : JS}
def kIxJ1 (A0 A1 : Addr) (d e : D) : M JS D := ixJ A0 A1 d e
def kIxJ (A0 A1 : Addr) (b : En JS D) (env : List Sl) (d : D) : M JS D := M.bind (b env) (kIxJ1 A0 A1 d)
theorem q_kIxJ : kIxJ A0 A1 b env d = M.bind (b env) (kIxJ1 A0 A1 d) := rfl
theorem q_eIxJ : eIxJ A0 A1 a b env = M.bind (a env) (kIxJ A0 A1 b env) := rfl
theorem q_ixJ0 : kIxJ1 A0 A1 (.opq (.ref A0)) (.int 0) j = .ok (.int (j.k : Int)) j := by
  show (if V.ref A0 = V.ref A0 then _ else _) = _
  rw [if_pos rfl]
  rfl
theorem q_ixJ1 : kIxJ1 A0 A1 (.opq (.ref A0)) (.int 1) j = .ok (.opq (.ref A1)) j := by
  show (if V.ref A0 = V.ref A0 then _ else _) = _
  rw [if_pos rfl]
  rfl
theorem q_ixJc (ne : A0 ≠ A1) {c : Int} {n : Nat} (h : j.cells[n]? = some c) : kIxJ1 A0 A1 (.opq (.ref A1)) (.int (n : Int)) j = .ok (.int c) j := by
  show (if V.ref A1 = V.ref A0 then _ else if V.ref A1 = V.ref A1 then _ else _) = _
  rw [if_neg (fun z => ne (by injection z with z; exact z.symm)), if_pos rfl]
  have : atI j.cells (n : Int) = some c := atI_nat h
  rw [this]
theorem q_eLenJ : eLenJ A1 mr env = M.bind (mr env) (lenJ A1) := rfl
theorem q_lenJ : lenJ A1 [.opq (.ref A1)] j = .ok (.int (j.cells.length : Nat)) j := by
  show (if V.ref A1 = V.ref A1 then _ else _) = _
  rw [if_pos rfl]
def kPutJ2 (A0 A1 : Addr) (v : V) (d : D) (env : List Sl) (k : D) : M JS Fl := putJ A0 A1 v k d env
def kPutJ1 (A0 A1 : Addr) (mx : En JS D) (env : List Sl) (d : D) (o : Option Sl) : M JS Fl := match o with
  | some (.fz (.opq v)) => M.bind (mx env) (kPutJ2 A0 A1 v d env)
  | _ => M.fail
theorem q_kPutJ1 {v : V} : kPutJ1 A0 A1 b env d (some (.fz (.opq v))) = M.bind (b env) (kPutJ2 A0 A1 v d env) := rfl
def kPutJ (A0 A1 : Addr) (i : Nat) (mx : En JS D) (env : List Sl) (d : D) : M JS Fl := kPutJ1 A0 A1 mx env d (env[i]?)
theorem q_kPutJ : kPutJ A0 A1 i b env d = kPutJ1 A0 A1 b env d (env[i]?) := rfl
theorem q_sPutJ : sPutJ A0 A1 i a b env = M.bind (a env) (kPutJ A0 A1 i b env) := by
  unfold sPutJ
  rfl
theorem q_putJ0 {c : Int} (h : 0 ≤ c) : kPutJ2 A0 A1 (.ref A0) (.int c) env (.int 0) j = .ok (.nx env) { j with k := c.toNat } := by
  show (if V.ref A0 = V.ref A0 then (if (0 : Int) = 0 ∧ 0 ≤ c then _ else _) else _) = _
  rw [if_pos rfl, if_pos ⟨rfl, h⟩]
theorem q_putJc (ne : A0 ≠ A1) {c : Int} {n : Nat} (h : n < j.cells.length) : kPutJ2 A0 A1 (.ref A1) (.int c) env (.int (n : Int)) j = .ok (.nx env) { j with cells := j.cells.set n c } := by
  show (if V.ref A1 = V.ref A0 then _ else if V.ref A1 = V.ref A1 then _ else _) = _
  rw [if_neg (fun z => ne (by injection z with z; exact z.symm)), if_pos rfl]
  have : ixN j.cells.length (n : Int) = some n := by
    unfold ixN
    rw [if_pos (by omega), if_pos (by omega), Int.toNat_natCast]
  rw [this]
theorem q_mulR {x y : Int} (h : y.natAbs < 2 ^ 64) : dMul (.int x) (.int y) = some (.int (x * y)) := if_pos (.inr h)
theorem q_mulL {x y : Int} (h : x.natAbs < 2 ^ 64) : dMul (.int x) (.int y) = some (.int (x * y)) := if_pos (.inl h)
theorem q_pow18 : dPow (.int 10) (.int 18) = some (.int 1000000000000000000) := by kernel_rfl
theorem q_pow60 : dPow (.int 10) (.int 60) = some (.int (10 ^ 60)) := by kernel_rfl
end
end DD
/-! typed readings: what a def's term computes, told over Lean's own types -/
namespace DD
open PySem PySem.Spec PyProof.Rows L2

/-- t tells what m does (values by R); where t is bad it tells nothing -/
def Ref {S α β : Type} (R : β → α → Prop) (m : M S β) (t : M S α) : Prop := ∀ s, match t s with
  | .ok a s' => ∃ b, m s = .ok b s' ∧ R b a
  | .ex c fs s' => m s = .ex c fs s'
  | .bad => True
section
variable {S α β γ δ : Type} {R : β → α → Prop} {R' : δ → γ → Prop}
theorem Ref.fail {m : M S β} : Ref R m M.fail := fun _ => trivial
theorem Ref.ret {b : β} {a : α} (h : R b a) : Ref R (M.ret b : M S β) (M.ret a) := fun s => ⟨b, rfl, h⟩
theorem Ref.bind {m : M S β} {t : M S α} {f : β → M S δ} {g : α → M S γ} (h : Ref R m t) (k : ∀ b a, R b a → Ref R' (f b) (g a)) : Ref R' (M.bind m f) (M.bind t g) := by
  intro s
  have h := h s
  show match (match t s with | .ok a s' => g a s' | .ex c fs s' => .ex c fs s' | .bad => .bad) with | .ok a s' => ∃ b, M.bind m f s = .ok b s' ∧ R' b a | .ex c fs s' => M.bind m f s = .ex c fs s' | .bad => True
  cases e : t s with
  | ok a s' =>
    rw [e] at h
    obtain ⟨b, hb, r⟩ := h
    rw [bnd_ok hb]
    exact k b a r s'
  | ex c fs s' =>
    rw [e] at h
    exact bnd_ex h
  | bad => trivial
theorem Ref.bindR {m : M S β} {t : M S γ} {b : β} {f : β → M S δ} (h : m = M.ret b) (k : Ref R' (f b) t) : Ref R' (M.bind m f) t := by rw [h]; exact k
theorem Ref.mono {R2 : β → α → Prop} {m : M S β} {t : M S α} (h : Ref R m t) (k : ∀ b a, R b a → R2 b a) : Ref R2 m t := by
  intro s
  have h := h s
  cases e : t s with
  | ok a s' => rw [e] at h; obtain ⟨b, hb, r⟩ := h; exact ⟨b, hb, k b a r⟩
  | ex c fs s' => rw [e] at h; exact h
  | bad => trivial
theorem Ref.noex {m : M S β} {t : M S α} (h : Ref R m t) : Ref R (DD.noex m) (DD.noex t) := by
  intro s
  have h := h s
  show match (match t s with | .ok a s' => Out.ok a s' | _ => .bad) with | .ok a s' => ∃ b, DD.noex m s = .ok b s' ∧ R b a | .ex c fs s' => DD.noex m s = .ex c fs s' | .bad => True
  cases e : t s with
  | ok a s' =>
    rw [e] at h
    obtain ⟨b, hb, r⟩ := h
    exact ⟨b, by unfold DD.noex; rw [hb], r⟩
  | ex c fs s' => trivial
  | bad => trivial
theorem Ref.exn {c : Str} {fs : List (Str × D)} : Ref R (M.exn c fs : M S β) (M.exn c fs) := fun _ => rfl
theorem Ref.ite {m m' : M S β} {t t' : M S α} {b : Bool} (h : b = true → Ref R m t) (h' : b = false → Ref R m' t') : Ref R (if b = true then m else m') (if b = true then t else t') := by
  cases b with
  | true => rw [if_pos rfl, if_pos rfl]; exact h rfl
  | false => rw [if_neg (by decide), if_neg (by decide)]; exact h' rfl
theorem Ref.ofO {o : Option β} {p : Option α} (h : ∀ a, p = some a → ∃ b, o = some b ∧ R b a) : Ref R (M.ofO o : M S β) (M.ofO p) := by
  cases e : p with
  | none => exact Ref.fail
  | some a =>
    obtain ⟨b, hb, r⟩ := h a e
    rw [hb]
    exact Ref.ret r
end
theorem Ref.of {S α β : Type} {R : β → α → Prop} {m : M S β} {t : M S α} (h : ∀ s a s', t s = .ok a s' → ∃ b, m s = .ok b s' ∧ R b a) (h' : ∀ s c fs s', t s = .ex c fs s' → m s = .ex c fs s') : Ref R m t := fun s => by
  cases e : t s with
  | ok a s' => exact h s a s' e
  | ex c fs s' => exact h' s c fs s' e
  | bad => trivial
/-! ### what is known of the slots -/
abbrev Gm := List (Option Sl)
def Kn : Gm → List Sl → Prop
  | [], [] => True
  | o :: G, x :: e => (match o with
    | none => True
    | some y => x = y) ∧ Kn G e
  | _, _ => False
def gtG : Gm → Nat → Option Sl
  | [], _ => none
  | o :: _, 0 => o
  | _ :: G, n + 1 => gtG G n
def stG : Gm → Nat → Option Sl → Gm
  | [], _, _ => []
  | _ :: G, 0, x => x :: G
  | o :: G, n + 1, x => o :: stG G n x
theorem Kn.get : ∀ {G : Gm} {env : List Sl} {i : Nat} {x : Sl}, Kn G env → gtG G i = some x → env[i]? = some x
  | [], _, _, _, _, e => by cases e
  | o :: G, [], _, _, h, _ => h.elim
  | o :: G, y :: env, 0, x, h, e => by
    have e : o = some x := e
    subst e
    have : y = x := h.1
    subst this
    rfl
  | o :: G, y :: env, i + 1, x, h, e => by
    rw [List.getElem?_cons_succ]
    exact Kn.get h.2 e
theorem Kn.set : ∀ {G : Gm} {env : List Sl} {i : Nat} {x : Sl}, Kn G env → Kn (stG G i (some x)) (env.set i x)
  | [], [], _, _, _ => trivial
  | [], _ :: _, _, _, h => h.elim
  | _ :: _, [], _, _, h => h.elim
  | o :: G, y :: env, 0, x, h => ⟨rfl, h.2⟩
  | o :: G, y :: env, i + 1, x, h => ⟨h.1, Kn.set h.2⟩
theorem Kn.setN : ∀ {G : Gm} {env : List Sl} {i : Nat} {x : Sl}, Kn G env → Kn (stG G i none) (env.set i x)
  | [], [], _, _, _ => trivial
  | [], _ :: _, _, _, h => h.elim
  | _ :: _, [], _, _, h => h.elim
  | o :: G, y :: env, 0, x, h => ⟨trivial, h.2⟩
  | o :: G, y :: env, i + 1, x, h => ⟨h.1, Kn.setN h.2⟩
theorem Kn.setU : ∀ {G : Gm} {env : List Sl} {i : Nat}, Kn G env → Kn (stG G i none) env
  | [], [], _, _ => trivial
  | [], _ :: _, _, h => h.elim
  | _ :: _, [], _, h => h.elim
  | o :: G, y :: env, 0, h => ⟨trivial, h.2⟩
  | o :: G, y :: env, i + 1, h => ⟨h.1, Kn.setU h.2⟩
theorem Kn.len : ∀ {G : Gm} {env : List Sl}, Kn G env → env.length = G.length
  | [], [], _ => rfl
  | [], _ :: _, h => h.elim
  | _ :: _, [], h => h.elim
  | o :: G, y :: env, h => by rw [List.length_cons, List.length_cons, Kn.len h.2]
inductive Wk : Gm → Gm → Prop
  | nil : Wk [] []
  | n {o : Option Sl} {G G' : Gm} : Wk G G' → Wk (o :: G) (none :: G')
  | s {o : Option Sl} {G G' : Gm} : Wk G G' → Wk (o :: G) (o :: G')
theorem Wk.kn {G G' : Gm} (w : Wk G G') : ∀ {env : List Sl}, Kn G env → Kn G' env := by
  induction w with
  | nil => exact fun h => h
  | n w ih =>
    intro env h
    cases env with
    | nil => exact h.elim
    | cons x env => exact ⟨trivial, ih h.2⟩
  | s w ih =>
    intro env h
    cases env with
    | nil => exact h.elim
    | cons x env => exact ⟨h.1, ih h.2⟩
def fzO : Sl → Sl
  | .ow d => if d.isSt = true then .no else .fz d
  | x => x
def frzG : List Nat → Gm → Gm
  | [], G => G
  | i :: al, G => frzG al (match gtG G i with
    | some x => stG G i (some (fzO x))
    | none => stG G i none)
theorem set_same {l : List Sl} {i : Nat} {x : Sl} (h : l[i]? = some x) : l.set i x = l := by
  obtain ⟨hi, e⟩ := List.getElem?_eq_some_iff.mp h
  rw [← e, List.set_getElem_self]
theorem frz1_eq {i : Nat} {env : List Sl} {x : Sl} (h : env[i]? = some x) : frz1 i env = env.set i (fzO x) := by
  unfold frz1
  rw [h]
  cases x with
  | no => exact (set_same h).symm
  | fz d => exact (set_same h).symm
  | ow d =>
    show (if d.isSt = true then env.set i .no else env.set i (.fz d)) = env.set i (if d.isSt = true then .no else .fz d)
    by_cases q : d.isSt = true
    · rw [if_pos q, if_pos q]
    · rw [if_neg q, if_neg q]
theorem Kn.frz : ∀ {al : List Nat} {G : Gm} {env : List Sl}, Kn G env → Kn (frzG al G) (DD.frz al env)
  | [], _, _, h => h
  | i :: al, G, env, h => by
    refine Kn.frz (al := al) ?_
    cases e : gtG G i with
    | some x =>
      rw [frz1_eq (h.get e)]
      exact h.set
    | none =>
      cases e2 : env[i]? with
      | none =>
        have : frz1 i env = env := by unfold frz1; rw [e2]
        rw [this]
        exact h.setU
      | some x =>
        rw [frz1_eq e2]
        exact h.setN
/-- all of al forgotten -/
def fgtG : List Nat → Gm → Gm
  | [], G => G
  | i :: al, G => fgtG al (stG G i none)
theorem Kn.fgt : ∀ {al : List Nat} {G : Gm} {env : List Sl}, Kn G env → Kn (fgtG al G) env
  | [], _, _, h => h
  | i :: al, G, env, h => Kn.fgt (al := al) h.setU
theorem Kn.fgtf : ∀ {al : List Nat} {G : Gm} {env : List Sl}, Kn G env → Kn (fgtG al G) (DD.frz al env)
  | [], _, _, h => h
  | i :: al, G, env, h => by
    refine Kn.fgtf (al := al) ?_
    cases e2 : env[i]? with
    | none =>
      have : frz1 i env = env := by unfold frz1; rw [e2]
      rw [this]
      exact h.setU
    | some x =>
      rw [frz1_eq e2]
      exact h.setN
def rdoO (al : List Nat) (i : Nat) : Option Sl → Option Sl
  | some x => some (rdo1 al i x)
  | none => none
def rdoG (al : List Nat) : Nat → Gm → Gm
  | _, [] => []
  | n, o :: G => rdoO al n o :: rdoG al (n + 1) G
theorem Kn.rdo0 {al : List Nat} : ∀ {G : Gm} {env : List Sl} (n : Nat), Kn G env → Kn (rdoG al n G) (env.mapIdx fun i x => rdo1 al (i + n) x)
  | [], [], _, _ => trivial
  | [], _ :: _, _, h => h.elim
  | _ :: _, [], _, h => h.elim
  | o :: G, y :: env, n, h => by
    rw [List.mapIdx_cons]
    refine ⟨?_, ?_⟩
    · cases o with
      | none => trivial
      | some x =>
        have : y = x := h.1
        subst this
        show rdo1 al (0 + n) y = rdo1 al n y
        rw [Nat.zero_add]
    · have := Kn.rdo0 (al := al) (n + 1) h.2
      have e : (fun i x => rdo1 al (i + (n + 1)) x) = fun i x => rdo1 al (i + 1 + n) x := by
        funext i x
        rw [Nat.add_assoc, Nat.add_comm 1 n]
      rw [e] at this
      exact this
theorem Kn.rdo {al : List Nat} {G : Gm} {env : List Sl} (h : Kn G env) : Kn (rdoG al 0 G) (DD.rdo al env) := by
  rw [q_rdo]
  exact Kn.rdo0 0 h
/-- as wipeE -/
def wipG (G : Gm) : List Nat → Gm
  | [] => G
  | v :: vs => stG (wipG G vs) v none
theorem Kn.wipe {G : Gm} {env : List Sl} (h : Kn G env) : ∀ vs : List Nat, Kn (wipG G vs) (wipeE env vs)
  | [] => h
  | v :: vs => (Kn.wipe h vs).setN
end DD
namespace DD
open PySem PySem.Spec PyProof.Rows L2
/-! ### how values stand as data -/
def eU (_ : Unit) : D := .non
def eT {α : Type} (e : α → D) (l : List α) : D := .tup (l.map e)
def eL {α : Type} (e : α → D) (l : List α) : D := .lst (l.map e)
def eP {α β : Type} (e : α → D) (f : β → D) (p : α × β) : D := .tup [e p.1, f p.2]
def eP3 {α β γ : Type} (e : α → D) (f : β → D) (g : γ → D) (p : α × β × γ) : D := .tup [e p.1, f p.2.1, g p.2.2]
def eP4 {α β γ δ : Type} (e : α → D) (f : β → D) (g : γ → D) (h : δ → D) (p : α × β × γ × δ) : D := .tup [e p.1, f p.2.1, g p.2.2.1, h p.2.2.2]
def eP5 {α β γ δ ε : Type} (e : α → D) (f : β → D) (g : γ → D) (h : δ → D) (k : ε → D) (p : α × β × γ × δ × ε) : D := .tup [e p.1, f p.2.1, g p.2.2.1, h p.2.2.2.1, k p.2.2.2.2]
def eP6 {α β γ δ ε ζ : Type} (e : α → D) (f : β → D) (g : γ → D) (h : δ → D) (k : ε → D) (l : ζ → D) (p : α × β × γ × δ × ε × ζ) : D := .tup [e p.1, f p.2.1, g p.2.2.1, h p.2.2.2.1, k p.2.2.2.2.1, l p.2.2.2.2.2]
def eP1 {α : Type} (e : α → D) (p : α) : D := .tup [e p]
def eO {α : Type} (e : α → D) : Option α → D
  | none => .non
  | some a => e a
def eM {κ α : Type} (k : κ → Key) (e : α → D) (l : List (κ × α)) : D := .dct (l.map fun p => (k p.1, e p.2))
def eS {κ : Type} (k : κ → Key) (l : List κ) : D := .st (l.map k)
def kS : Str → Key := .inr
def kI : Int → Key := .inl
def eJ (A0 : Addr) (_ : Unit) : D := .opq (.ref A0)
/-- in a list -/
def memB {α : Type} [DecidableEq α] (a : α) (l : List α) : Bool := @decide (a ∈ l) (@List.instDecidableMemOfLawfulBEq α instBEqOfDecidableEq inferInstance a l)
theorem memB_iff {α : Type} [DecidableEq α] {a : α} {l : List α} : memB a l = true ↔ a ∈ l := by unfold memB; exact decide_eq_true_iff
theorem memB_not {α : Type} [DecidableEq α] {a : α} {l : List α} : memB a l = false ↔ a ∉ l := by
  rw [← memB_iff]
  cases memB a l <;> simp
/-! ### equality -/
/-- Python's == at e is = -/
structure Cm {α : Type} [DecidableEq α] (e : α → D) (n : Nat) : Prop where
  dp : ∀ a, (e a).dp n
  eqv : ∀ a b, (e a).eqv (e b) = decide (a = b)
theorem cm_int : Cm D.int 0 := ⟨fun _ => dp_int, fun a b => by simp only [D.eqv]; exact Bool.beq_eq_decide_eq a b⟩
theorem cm_str : Cm D.str 0 := ⟨fun _ => dp_str, fun a b => by simp only [D.eqv]; exact Bool.beq_eq_decide_eq a b⟩
theorem cm_bl : Cm D.bl 0 := ⟨fun _ => dp_bl, fun a b => by simp only [D.eqv]; exact Bool.beq_eq_decide_eq a b⟩
theorem cm_list {α : Type} [DecidableEq α] {e : α → D} {n : Nat} (c : Cm e n) : ∀ a b : List α, eqvs (a.map e) (b.map e) = decide (a = b)
  | [], [] => by simp [eqvs]
  | [], y :: b => by simp [eqvs]
  | x :: a, [] => by simp [eqvs]
  | x :: a, y :: b => by
    rw [List.map_cons, List.map_cons, eqvs, c.eqv, cm_list c a b, Bool.eq_iff_iff]
    simp
theorem cm_T {α : Type} [DecidableEq α] {e : α → D} {n : Nat} (c : Cm e n) : Cm (eT e) (n + 1) where
  dp := fun a => dp_tup fun d h => by obtain ⟨x, _, rfl⟩ := List.mem_map.mp h; exact c.dp x
  eqv := fun a b => by unfold eT; simp only [D.eqv]; exact cm_list c a b
theorem cm_L {α : Type} [DecidableEq α] {e : α → D} {n : Nat} (c : Cm e n) : Cm (eL e) (n + 1) where
  dp := fun a => dp_lst fun d h => by obtain ⟨x, _, rfl⟩ := List.mem_map.mp h; exact c.dp x
  eqv := fun a b => by unfold eL; simp only [D.eqv]; exact cm_list c a b
section
variable {α β γ δ ε ζ : Type} [DecidableEq α] [DecidableEq β] [DecidableEq γ] [DecidableEq δ] [DecidableEq ε] [DecidableEq ζ] {e : α → D} {f : β → D} {g : γ → D} {h : δ → D} {k : ε → D} {l : ζ → D} {n m o p q r : Nat}
theorem cm_up (c : Cm e n) (le : n ≤ m) : Cm e m := ⟨fun a => (c.dp a).up le, c.eqv⟩
theorem cm_P (c : Cm e n) (c2 : Cm f m) : Cm (eP e f) (max n m + 1) where
  dp := fun a => dp_tup fun d hd => by
    simp only [List.mem_cons, List.not_mem_nil, or_false] at hd
    rcases hd with rfl | rfl
    · exact (c.dp _).up (by omega)
    · exact (c2.dp _).up (by omega)
  eqv := fun a b => by
    unfold eP
    simp only [D.eqv, eqvs, c.eqv, c2.eqv, Bool.and_true]
    rw [Bool.eq_iff_iff]
    simp [Prod.ext_iff]
theorem cm_P3 (c : Cm e n) (c2 : Cm f m) (c3 : Cm g o) : Cm (eP3 e f g) (max n (max m o) + 1) where
  dp := fun a => dp_tup fun d hd => by
    simp only [List.mem_cons, List.not_mem_nil, or_false] at hd
    rcases hd with rfl | rfl | rfl
    · exact (c.dp _).up (by omega)
    · exact (c2.dp _).up (by omega)
    · exact (c3.dp _).up (by omega)
  eqv := fun a b => by
    unfold eP3
    simp only [D.eqv, eqvs, c.eqv, c2.eqv, c3.eqv, Bool.and_true]
    rw [Bool.eq_iff_iff]
    simp [Prod.ext_iff]
theorem cm_P4 (c : Cm e n) (c2 : Cm f m) (c3 : Cm g o) (c4 : Cm h p) : Cm (eP4 e f g h) (max n (max m (max o p)) + 1) where
  dp := fun a => dp_tup fun d hd => by
    simp only [List.mem_cons, List.not_mem_nil, or_false] at hd
    rcases hd with rfl | rfl | rfl | rfl
    · exact (c.dp _).up (by omega)
    · exact (c2.dp _).up (by omega)
    · exact (c3.dp _).up (by omega)
    · exact (c4.dp _).up (by omega)
  eqv := fun a b => by
    unfold eP4
    simp only [D.eqv, eqvs, c.eqv, c2.eqv, c3.eqv, c4.eqv, Bool.and_true]
    rw [Bool.eq_iff_iff]
    simp [Prod.ext_iff]
theorem cm_P5 (c : Cm e n) (c2 : Cm f m) (c3 : Cm g o) (c4 : Cm h p) (c5 : Cm k q) : Cm (eP5 e f g h k) (max n (max m (max o (max p q))) + 1) where
  dp := fun a => dp_tup fun d hd => by
    simp only [List.mem_cons, List.not_mem_nil, or_false] at hd
    rcases hd with rfl | rfl | rfl | rfl | rfl
    · exact (c.dp _).up (by omega)
    · exact (c2.dp _).up (by omega)
    · exact (c3.dp _).up (by omega)
    · exact (c4.dp _).up (by omega)
    · exact (c5.dp _).up (by omega)
  eqv := fun a b => by
    unfold eP5
    simp only [D.eqv, eqvs, c.eqv, c2.eqv, c3.eqv, c4.eqv, c5.eqv, Bool.and_true]
    rw [Bool.eq_iff_iff]
    simp [Prod.ext_iff]
theorem cm_O (c : Cm e n) (hn : ∀ a, (e a).eqv .non = false ∧ D.non.eqv (e a) = false) : Cm (eO e) n where
  dp := fun a => by
    cases a with
    | none => exact dp_non
    | some a => exact c.dp a
  eqv := fun a b => by
    cases a with
    | none => cases b with
      | none => rfl
      | some b => rw [show eO e none = .non from rfl, show eO e (some b) = e b from rfl, (hn b).2]; simp
    | some a => cases b with
      | none => rw [show eO e none = .non from rfl, show eO e (some a) = e a from rfl, (hn a).1]; simp
      | some b => rw [show eO e (some a) = e a from rfl, show eO e (some b) = e b from rfl, c.eqv]; simp
theorem cm_has (c : Cm e n) (a : α) (l : List α) : dHas (e a) (l.map e) = memB a l := by
  unfold dHas
  rw [List.any_map, Bool.eq_iff_iff, List.any_eq_true, memB_iff]
  constructor
  · rintro ⟨x, hx, q⟩
    have q : (e x).eqv (e a) = true := q
    rw [c.eqv, decide_eq_true_iff] at q
    exact q ▸ hx
  · intro q
    exact ⟨a, q, by show (e a).eqv (e a) = true; rw [c.eqv]; simp⟩
theorem Cm.cmp (c : Cm e n) (hn : n ≤ 60) (a : α) : (e a).cmp = true := D.dp.cmp (c.dp a) hn
theorem o_eq (c : Cm e n) (a b : α) (hn : n ≤ 60 := by decide) : dEq (e a) (e b) = some (.bl (decide (a = b))) := by
  unfold dEq
  rw [c.cmp hn, c.cmp hn, c.eqv]
  rfl
theorem o_ne (c : Cm e n) (a b : α) (hn : n ≤ 60 := by decide) : dNe (e a) (e b) = some (.bl (!decide (a = b))) := by
  unfold dNe
  rw [c.cmp hn, c.cmp hn, c.eqv]
  rfl
theorem o_inT (c : Cm e n) (a : α) (l : List α) (hn : n + 1 ≤ 60 := by decide) : dIn (e a) (eT e l) = some (.bl (memB a l)) := by
  unfold dIn dInB eT
  dsimp only
  rw [c.cmp (by omega), show (D.tup (l.map e)).cmp = true from (cm_T c).cmp hn l, cm_has c]
  rfl
theorem o_notInT (c : Cm e n) (a : α) (l : List α) (hn : n + 1 ≤ 60 := by decide) : dNotIn (e a) (eT e l) = some (.bl (!memB a l)) := by
  unfold dNotIn dInB eT
  dsimp only
  rw [c.cmp (by omega), show (D.tup (l.map e)).cmp = true from (cm_T c).cmp hn l, cm_has c]
  rfl
theorem o_inL (c : Cm e n) (a : α) (l : List α) (hn : n + 1 ≤ 60 := by decide) : dIn (e a) (eL e l) = some (.bl (memB a l)) := by
  unfold dIn dInB eL
  dsimp only
  rw [c.cmp (by omega), show (D.lst (l.map e)).cmp = true from (cm_L c).cmp hn l, cm_has c]
  rfl
theorem o_notInL (c : Cm e n) (a : α) (l : List α) (hn : n + 1 ≤ 60 := by decide) : dNotIn (e a) (eL e l) = some (.bl (!memB a l)) := by
  unfold dNotIn dInB eL
  dsimp only
  rw [c.cmp (by omega), show (D.lst (l.map e)).cmp = true from (cm_L c).cmp hn l, cm_has c]
  rfl
/-- the first place of a -/
def fiT (l : List α) (a : α) : Option Int := (l.findIdx? fun x => decide (x = a)).map fun j => (j : Int)
theorem fi_map (c : Cm e n) (l : List α) (a : α) : ((l.map e).findIdx? fun z => z.eqv (e a)) = l.findIdx? fun x => decide (x = a) := by
  rw [List.findIdx?_map]
  congr 1
  funext x
  exact c.eqv x a
theorem o_idxT (c : Cm e n) (l : List α) (a : α) (hn : n + 1 ≤ 60 := by decide) : dIdx (eT e l) (e a) = (fiT l a).map D.int := by
  unfold dIdx eT fiT
  dsimp only
  rw [c.cmp (by omega), show (D.tup (l.map e)).cmp = true from (cm_T c).cmp hn l, fi_map c]
  cases l.findIdx? (fun x => decide (x = a)) <;> rfl
theorem o_idxL (c : Cm e n) (l : List α) (a : α) (hn : n + 1 ≤ 60 := by decide) : dIdx (eL e l) (e a) = (fiT l a).map D.int := by
  unfold dIdx eL fiT
  dsimp only
  rw [c.cmp (by omega), show (D.lst (l.map e)).cmp = true from (cm_L c).cmp hn l, fi_map c]
  cases l.findIdx? (fun x => decide (x = a)) <;> rfl
end
/-! ### dicts and sets over typed keys -/
structure Kj {κ : Type} [DecidableEq κ] (k : κ → Key) (ek : κ → D) : Prop where
  inj : ∀ a b, k a = k b → a = b
  of : ∀ a, keyOf (ek a) = some (k a)
  back : ∀ a, keyD (k a) = ek a
theorem kj_S : Kj kS D.str := ⟨fun a b h => Sum.inr.inj h, fun _ => rfl, fun _ => rfl⟩
theorem kj_I : Kj kI D.int := ⟨fun a b h => Sum.inl.inj h, fun _ => rfl, fun _ => rfl⟩
def lookT {κ α : Type} [DecidableEq κ] (l : List (κ × α)) (k : κ) : Option α := (l.find? fun p => decide (p.1 = k)).map (·.2)
def putT {κ α : Type} [DecidableEq κ] (l : List (κ × α)) (k : κ) (v : α) : List (κ × α) := if (l.any fun p => decide (p.1 = k)) = true then l.map fun p => if p.1 = k then (p.1, v) else p else l ++ [(k, v)]
def hasT {κ α : Type} [DecidableEq κ] (l : List (κ × α)) (k : κ) : Bool := l.any fun p => decide (p.1 = k)
section
variable {κ α β : Type} [DecidableEq κ] {k : κ → Key} {ek : κ → D} {e : α → D}
theorem kj_dec (j : Kj k ek) (a b : κ) : decide (k a = k b) = decide (a = b) := by
  rw [Bool.eq_iff_iff, decide_eq_true_iff, decide_eq_true_iff]
  exact ⟨j.inj a b, fun h => by rw [h]⟩
theorem o_look (j : Kj k ek) (l : List (κ × α)) (a : κ) : dIx (eM k e l) (ek a) = (lookT l a).map e := by
  unfold eM dIx
  dsimp only
  rw [j.of]
  show dLook _ (k a) = _
  unfold dLook lookT
  rw [List.find?_map]
  have : ((fun p : Key × D => decide (p.1 = k a)) ∘ fun p : κ × α => (k p.1, e p.2)) = fun p : κ × α => decide (p.1 = a) := by
    funext p
    exact kj_dec j p.1 a
  rw [this]
  cases l.find? (fun p : κ × α => decide (p.1 = a)) <;> rfl
theorem look_some (l : List (κ × α)) (a : κ) : (lookT l a).isSome = hasT l a := by
  unfold lookT hasT
  rw [Option.isSome_map, Bool.eq_iff_iff, List.find?_isSome, List.any_eq_true]
theorem o_inM (j : Kj k ek) (l : List (κ × α)) (a : κ) : dIn (ek a) (eM k e l) = some (.bl (hasT l a)) := by
  have h := o_look (e := e) j l a
  unfold dIn dInB eM
  dsimp only
  rw [j.of]
  show some (D.bl (dLook _ (k a)).isSome) = _
  unfold eM dIx at h
  dsimp only at h
  rw [j.of] at h
  have h : dLook (l.map fun p => (k p.1, e p.2)) (k a) = _ := h
  rw [h, Option.isSome_map, look_some]
theorem o_notInM (j : Kj k ek) (l : List (κ × α)) (a : κ) : dNotIn (ek a) (eM k e l) = some (.bl (!hasT l a)) := by
  have h := o_inM (e := e) j l a
  unfold dIn at h
  unfold dNotIn
  cases q : dInB (ek a) (eM k e l) with
  | none => rw [q] at h; cases h
  | some b => rw [q] at h; cases h; rfl
theorem put_map (j : Kj k ek) (l : List (κ × α)) (a : κ) (v : α) : putD (l.map fun p => (k p.1, e p.2)) (k a) (e v) = (putT l a v).map fun p => (k p.1, e p.2) := by
  unfold putD putT
  rw [List.any_map]
  have : ((fun p : Key × D => decide (p.1 = k a)) ∘ fun p : κ × α => (k p.1, e p.2)) = fun p : κ × α => decide (p.1 = a) := by
    funext p
    exact kj_dec j p.1 a
  rw [this]
  by_cases q : (l.any fun p => decide (p.1 = a)) = true
  · rw [if_pos q, if_pos q, List.map_map, List.map_map]
    apply List.map_congr_left
    intro p _
    show (if k p.1 = k a then (k p.1, e v) else (k p.1, e p.2)) = (k (if p.1 = a then (p.1, v) else p).1, e (if p.1 = a then (p.1, v) else p).2)
    by_cases z : p.1 = a
    · rw [if_pos z, if_pos (by rw [z])]
    · rw [if_neg z, if_neg fun h => z (j.inj _ _ h)]
  · rw [if_neg q, if_neg q, List.map_append]
    rfl
theorem memK_map (j : Kj k ek) (l : List κ) (a : κ) : memK (l.map k) (k a) = memB a l := by
  unfold memK
  rw [List.any_map, Bool.eq_iff_iff, List.any_eq_true, memB_iff]
  constructor
  · rintro ⟨x, hx, q⟩
    have q : k a = k x := of_decide_eq_true q
    exact j.inj _ _ q ▸ hx
  · intro h
    exact ⟨a, h, decide_eq_true rfl⟩
def addT (l : List κ) (a : κ) : List κ := if a ∈ l then l else l ++ [a]
theorem memL_map (j : Kj k ek) (l : List κ) (a : κ) : memL (l.map k) (k a) = (addT l a).map k := by
  unfold memL addT
  rw [memK_map j]
  by_cases q : a ∈ l
  · rw [if_pos (memB_iff.mpr q), if_pos q]
  · rw [if_neg (by rw [memB_iff]; exact q), if_neg q, List.map_append]
    rfl
end
/-! ### expressions -/
abbrev RD {α : Type} (e : α → D) : D → α → Prop := fun d a => d = e a
section
variable {S α β γ δ ρ : Type} {G G' : Gm} {m ma mb mc : En S D} {mr : En S (List D)} {mt mu : En S Bool} {e : α → D} {ea : β → D} {eb : γ → D} {ec : δ → D} {v : α}
/-- a pure expression -/
def PV (G : Gm) (m : En S D) (v : α) (e : α → D) : Prop := ∀ env, Kn G env → m env = M.ret (e v)
def PVs (G : Gm) (m : En S (List D)) (ds : List D) : Prop := ∀ env, Kn G env → m env = M.ret ds
def PTb (G : Gm) (m : En S Bool) (b : Bool) : Prop := ∀ env, Kn G env → m env = M.ret b
def POi (G : Gm) (m : EnO S) (o : Option Int) : Prop := ∀ env, Kn G env → m env = M.ret o
def TE (G : Gm) (m : En S D) (t : M S α) (e : α → D) : Prop := ∀ env, Kn G env → Ref (RD e) (m env) t
def TTb (G : Gm) (m : En S Bool) (t : M S Bool) : Prop := ∀ env, Kn G env → Ref Eq (m env) t
/-- arguments -/
def TA (G : Gm) (m : En S (List D)) (t : M S α) (e : α → List D) : Prop := ∀ env, Kn G env → Ref (fun ds a => ds = e a) (m env) t
theorem pv_as (v' : ρ) (e' : ρ → D) (h : PV G m v e) (q : e v = e' v' := by rfl) : PV G m v' e' := fun env k => by rw [h env k, q]
theorem pv_var {i : Nat} (e : α → D) (v : α) (h : gtG G i = some (.fz (e v))) : PV (S := S) G (eVarF i) v e := fun env k => by rw [q_eVarF, k.get h]; rfl
theorem pv_own {i : Nat} (e : α → D) (v : α) (h : gtG G i = some (.ow (e v))) (hs : (e v).isSt = false := by rfl) : PV (S := S) G (eVar i) v e := fun env k => by
  rw [q_eVar, k.get h]
  show (if (e v).isSt = true then M.fail else M.ret (e v)) = _
  rw [hs]
  rfl
theorem pv_ownF {i : Nat} (e : α → D) (v : α) (h : gtG G i = some (.fz (e v))) : PV (S := S) G (eVar i) v e := fun env k => by rw [q_eVar, k.get h]; rfl
theorem pv_c {d : D} (e : α → D) (v : α) (h : d = e v := by rfl) : PV (S := S) G (eC d) v e := fun env k => by rw [q_eC, h]
theorem pv_op2 {f : D → D → Option D} {a : β} {b : γ} {c : δ} (h : f (ea a) (eb b) = some (ec c)) (ha : PV G ma a ea) (hb : PV G mb b eb) : PV G (eOp2 f ma mb) c ec := fun env k => by
  rw [q_eOp2, ha env k, q_bind_ret, q_kOp2a, hb env k, q_bind_ret, q_kOp2b, h, q_ofO_some]
theorem pv_op1 {f : D → Option D} {a : β} {c : δ} (h : f (ea a) = some (ec c)) (ha : PV G ma a ea) : PV G (eOp1 f ma) c ec := fun env k => by
  rw [q_eOp1, ha env k, q_bind_ret, q_kOp1, h, q_ofO_some]
theorem pvs_nil : PVs (S := S) G aNil [] := fun env k => rfl
theorem pvs_cons {a : β} {ds : List D} (ha : PV G ma a ea) (h : PVs G mr ds) : PVs G (aCons ma mr) (ea a :: ds) := fun env k => by
  rw [q_aCons, ha env k, q_bind_ret, q_kConsa, h env k, q_bind_ret, q_kConsb]
theorem pv_tup {ds : List D} (v : α) (e : α → D) (h : PVs G mr ds) (q : e v = .tup ds := by rfl) (hl : ds.length ≤ 4096 := by exact Nat.le_of_ble_eq_true rfl) : PV G (eTup mr) v e := fun env k => by
  rw [q_eTup, h env k, q_bind_ret, q]
  exact if_pos hl
theorem pv_lst {ds : List D} (v : α) (e : α → D) (h : PVs G mr ds) (q : e v = .lst ds := by rfl) (hl : ds.length ≤ 4096 := by exact Nat.le_of_ble_eq_true rfl) : PV G (eLst mr) v e := fun env k => by
  rw [q_eLst, h env k, q_bind_ret, q]
  exact if_pos hl
theorem pv_cb {f : List D → Option D} {ds : List D} (v : α) (e : α → D) (h : PVs G mr ds) (q : f ds = some (e v) := by rfl) : PV G (eCB f mr) v e := fun env k => by
  rw [q_eCB, h env k, q_bind_ret, q_kCB, q, q_ofO_some]
theorem pv_dct0 {κ : Type} (k : κ → Key) (e : α → D) : PV (S := S) G eDct0 ([] : List (κ × α)) (eM k e) := fun env _ => rfl
theorem pv_and {a b : Bool} (ha : PV G ma a .bl) (hb : PV G mb b .bl) : PV G (eAnd2 ma mb) (a && b) .bl := fun env k => by
  rw [q_eAnd2, ha env k, q_bind_ret]
  cases a with
  | true => rw [q_kAndE1, hb env k, Bool.true_and]
  | false => rfl
theorem pv_or {a b : Bool} (ha : PV G ma a .bl) (hb : PV G mb b .bl) : PV G (eOr2 ma mb) (a || b) .bl := fun env k => by
  rw [q_eOr2, ha env k, q_bind_ret]
  cases a with
  | true => rfl
  | false => rw [q_kOrE2, hb env k, Bool.false_or]
theorem pv_not {a : Bool} (ha : PV G ma a .bl) : PV G (eNot1 ma) (!a) .bl := fun env k => by
  rw [q_eNot1, ha env k, q_bind_ret, q_kNotE]
theorem pv_if {b : Bool} {x y : α} (ht : PTb G mt b) (ha : PV G ma x e) (hb : PV G mb y e) : PV G (eIf mt ma mb) (if b = true then x else y) e := fun env k => by
  rw [q_eIf, ht env k, q_bind_ret]
  cases b with
  | true => rw [q_kIf1, ha env k, if_pos rfl]
  | false => rw [q_kIf2, hb env k, if_neg (by decide)]
theorem po_none : POi (S := S) G oNone none := fun env k => rfl
theorem po_some {i : Int} (h : PV G m i .int) : POi G (oSome m) (some i) := fun env k => by
  rw [q_oSome, h env k, q_bind_ret]
  rfl
theorem pv_cut {ml mh : EnO S} {a : β} {lo hi : Option Int} {c : δ} (h : PV G m a ea) (hl : POi G ml lo) (hh : POi G mh hi) (q : dCut (ea a) lo hi = some (ec c)) : PV G (eCut m ml mh) c ec := fun env k => by
  rw [q_eCut, h env k, q_bind_ret, q_kCut0, hl env k, q_bind_ret, q_kCut1, hh env k, q_bind_ret, q_kCut2, q, q_ofO_some]
theorem o_cutT (e : α → D) (l : List α) (lo hi : Option Int) : dCut (eT e l) lo hi = some (eT e (cutD l lo hi)) := by
  show some (D.tup (cutD (l.map e) lo hi)) = _
  rw [cut_map]
  rfl
theorem o_cutL (e : α → D) (l : List α) (lo hi : Option Int) : dCut (eL e l) lo hi = some (eL e (cutD l lo hi)) := by
  show some (D.lst (cutD (l.map e) lo hi)) = _
  rw [cut_map]
  rfl
theorem o_rev (e : α → D) (l : List α) : dRev (eL e l) = some (eL e l.reverse) := by
  show some (D.lst (l.map e).reverse) = _
  rw [← List.map_reverse]
  rfl
theorem bools_of (l : List Bool) : boolsOf (l.map D.bl) = some l := by
  induction l with
  | nil => rfl
  | cons b l ih => rw [List.map_cons, boolsOf, ih]; rfl
theorem ints_of' (l : List Int) : intsOf (l.map D.int) = some l := by
  induction l with
  | nil => rfl
  | cons b l ih => rw [List.map_cons, intsOf, ih]; rfl
theorem o_all (l : List Bool) : dAll [eL D.bl l] = some (.bl (l.all id)) := by
  show (boolsOf (l.map D.bl)).map _ = _
  rw [bools_of]
  rfl
theorem o_any (l : List Bool) : dAny [eL D.bl l] = some (.bl (l.any id)) := by
  show (boolsOf (l.map D.bl)).map _ = _
  rw [bools_of]
  rfl
theorem o_sum (l : List Int) : dSum [eL D.int l] = some (.int l.sum) := by
  show (intsOf (l.map D.int)).map _ = _
  rw [ints_of']
  rfl
theorem o_lenT (e : α → D) (l : List α) : dLen [eT e l] = some (.int (l.length : Nat)) := by
  show some (D.int ((l.map e).length : Nat)) = _
  rw [List.length_map]
theorem o_lenL (e : α → D) (l : List α) : dLen [eL e l] = some (.int (l.length : Nat)) := by
  show some (D.int ((l.map e).length : Nat)) = _
  rw [List.length_map]
/-! tests -/
theorem pt_val {b : Bool} (h : PV G m b .bl) : PTb G (tVal m) b := fun env k => by rw [q_tVal, h env k, q_bind_ret]; rfl
theorem pt_and {a b : Bool} (ha : PTb G mt a) (hb : PTb G mu b) : PTb G (tAnd2 mt mu) (a && b) := fun env k => by
  rw [q_tAnd2, ha env k, q_bind_ret]
  cases a with
  | true => rw [q_kAnd1, hb env k, Bool.true_and]
  | false => rfl
theorem pt_or {a b : Bool} (ha : PTb G mt a) (hb : PTb G mu b) : PTb G (tOr2 mt mu) (a || b) := fun env k => by
  rw [q_tOr2, ha env k, q_bind_ret]
  cases a with
  | true => rfl
  | false => rw [q_kOr2, hb env k, Bool.false_or]
theorem pt_not {a : Bool} (ha : PTb G mt a) : PTb G (tNot1 mt) (!a) := fun env k => by rw [q_tNot1, ha env k, q_bind_ret, q_kNot]
theorem pt_inS {κ : Type} [DecidableEq κ] {k : κ → Key} {ek : κ → D} {neg : Bool} {i : Nat} {a : κ} {l : List κ} (j : Kj k ek) (h : gtG G i = some (.ow (eS k l))) (ha : PV G m a ek) : PTb G (tInS neg i m) (if neg = true then !memB a l else memB a l) := fun env q => by
  rw [q_tInS, ha env q, q_bind_ret, q_kInS, q.get h]
  show kInS1 neg (l.map k) (keyOf (ek a)) = _
  rw [j.of, q_kInS1, memK_map j]
theorem tt_p {b : Bool} (h : PTb G mt b) : TTb G mt (M.ret b) := fun env k => by rw [h env k]; exact Ref.ret rfl
theorem tt_val {t : M S Bool} (h : TE G m t .bl) : TTb G (tVal m) t := fun env k => by
  rw [q_tVal]
  have := Ref.bind (g := M.ret) (R' := Eq) (f := kVal) (h env k) fun d b q => by rw [show d = .bl b from q]; exact Ref.ret rfl
  rwa [M.bind_ret] at this
def andM (t u : M S Bool) : M S Bool := M.bind t fun b => if b = true then u else M.ret false
def orM (t u : M S Bool) : M S Bool := M.bind t fun b => if b = true then M.ret true else u
def notM (t : M S Bool) : M S Bool := M.bind t fun b => M.ret (!b)
theorem tt_and {t u : M S Bool} (ha : TTb G mt t) (hb : TTb G mu u) : TTb G (tAnd2 mt mu) (andM t u) := fun env k => by
  rw [q_tAnd2]
  refine Ref.bind (ha env k) fun b a q => ?_
  subst q
  exact Ref.ite (fun _ => hb env k) fun _ => Ref.ret rfl
theorem tt_or {t u : M S Bool} (ha : TTb G mt t) (hb : TTb G mu u) : TTb G (tOr2 mt mu) (orM t u) := fun env k => by
  rw [q_tOr2]
  refine Ref.bind (ha env k) fun b a q => ?_
  subst q
  exact Ref.ite (fun _ => Ref.ret rfl) fun _ => hb env k
theorem tt_not {t : M S Bool} (ha : TTb G mt t) : TTb G (tNot1 mt) (notM t) := fun env k => by
  rw [q_tNot1]
  refine Ref.bind (ha env k) fun b a q => ?_
  subst q
  exact Ref.ret rfl
/-! with ends -/
theorem te_p (h : PV G m v e) : TE G m (M.ret v) e := fun env k => by rw [h env k]; exact Ref.ret rfl
theorem te_as {t : M S α} (e' : α → D) (h : TE G m t e) (q : ∀ a, e a = e' a := by intro _; rfl) : TE G m t e' := fun env k => (h env k).mono fun d a z => by rw [z, q]
theorem te_map {t : M S α} (f : α → β) (h : TE G m t e) (q : ∀ a, e a = ea (f a) := by intro _; rfl) : TE G m (M.bind t fun a => M.ret (f a)) ea := fun env k => by
  have := Ref.bind (g := fun a => M.ret (f a)) (R' := RD ea) (f := M.ret) (h env k) fun d a z => Ref.ret (show d = ea (f a) by rw [← q, z])
  rwa [M.bind_ret] at this
/-- a partial reading of a value -/
theorem te_cast {t : M S α} {g : α → Option β} (h : TE G m t e) (q : ∀ a b, g a = some b → e a = ea b) : TE G m (M.bind t fun a => M.ofO (g a)) ea := fun env k => by
  have := Ref.bind (g := fun a => M.ofO (g a)) (R' := RD ea) (f := M.ret) (h env k) fun d a z => by
    cases c : g a with
    | none => exact Ref.fail
    | some b => exact Ref.ret (show d = ea b by rw [← q a b c, z])
  rwa [M.bind_ret] at this
theorem te_castP {g : α → Option β} (h : PV G m v e) (q : ∀ a b, g a = some b → e a = ea b) : TE G m (M.ofO (g v)) ea := fun env k => by
  rw [h env k]
  cases c : g v with
  | none => exact Ref.fail
  | some b => exact Ref.ret (q v b c)
theorem te_op2 {f : D → D → Option D} {a : β} {b : γ} {t : M S α} (h : Ref (RD e) (M.ofO (f (ea a) (eb b))) t) (ha : PV G ma a ea) (hb : PV G mb b eb) : TE G (eOp2 f ma mb) t e := fun env k => by
  rw [q_eOp2, ha env k, q_bind_ret, q_kOp2a, hb env k, q_bind_ret, q_kOp2b]
  exact h
theorem te_op2m {f : D → D → Option D} {ta : M S β} {tb : M S γ} {t : β → γ → M S α} (h : ∀ a b, Ref (RD e) (M.ofO (f (ea a) (eb b))) (t a b)) (ha : TE G ma ta ea) (hb : TE G mb tb eb) : TE G (eOp2 f ma mb) (M.bind ta fun a => M.bind tb fun b => t a b) e := fun env k => by
  rw [q_eOp2]
  refine Ref.bind (ha env k) fun d a q => ?_
  rw [q_kOp2a]
  refine Ref.bind (hb env k) fun d' b q' => ?_
  rw [q_kOp2b, show d = ea a from q, show d' = eb b from q']
  exact h a b
theorem te_op2l {f : D → D → Option D} {b : γ} {ta : M S β} {t : β → M S α} (h : ∀ a, Ref (RD e) (M.ofO (f (ea a) (eb b))) (t a)) (ha : TE G ma ta ea) (hb : PV G mb b eb) : TE G (eOp2 f ma mb) (M.bind ta t) e := fun env k => by
  rw [q_eOp2]
  refine Ref.bind (ha env k) fun d a q => ?_
  rw [q_kOp2a, hb env k, q_bind_ret, q_kOp2b, show d = ea a from q]
  exact h a
theorem te_op2r {f : D → D → Option D} {a : β} {tb : M S γ} {t : γ → M S α} (h : ∀ b, Ref (RD e) (M.ofO (f (ea a) (eb b))) (t b)) (ha : PV G ma a ea) (hb : TE G mb tb eb) : TE G (eOp2 f ma mb) (M.bind tb t) e := fun env k => by
  rw [q_eOp2, ha env k, q_bind_ret, q_kOp2a]
  refine Ref.bind (hb env k) fun d b q => ?_
  rw [q_kOp2b, show d = eb b from q]
  exact h b
theorem te_op1 {f : D → Option D} {a : β} {t : M S α} (h : Ref (RD e) (M.ofO (f (ea a))) t) (ha : PV G ma a ea) : TE G (eOp1 f ma) t e := fun env k => by
  rw [q_eOp1, ha env k, q_bind_ret, q_kOp1]
  exact h
theorem te_op1m {f : D → Option D} {ta : M S β} {t : β → M S α} (h : ∀ a, Ref (RD e) (M.ofO (f (ea a))) (t a)) (ha : TE G ma ta ea) : TE G (eOp1 f ma) (M.bind ta t) e := fun env k => by
  rw [q_eOp1]
  refine Ref.bind (ha env k) fun d a q => ?_
  rw [q_kOp1, show d = ea a from q]
  exact h a
theorem rf_p {o : Option D} {c : α} (h : o = some (e c)) : Ref (RD e) (M.ofO o : M S D) (M.ret c) := by rw [h]; exact Ref.ret rfl
theorem rf_o {o : Option D} {c : Option α} (h : o = c.map e) : Ref (RD e) (M.ofO o : M S D) (M.ofO c) := by
  rw [h]
  cases c with
  | none => exact Ref.fail
  | some c => exact Ref.ret rfl
theorem rf_if {o : Option D} {c : Prop} [Decidable c] {t : M S α} (h : c → Ref (RD e) (M.ofO o : M S D) t) : Ref (RD e) (M.ofO o : M S D) (if c then t else M.fail) := by
  by_cases q : c
  · rw [if_pos q]; exact h q
  · rw [if_neg q]; exact Ref.fail
theorem ta_nil : TA (S := S) G aNil (M.ret ()) (fun _ => []) := fun env k => Ref.ret rfl
theorem ta_cons {ta : M S β} {tr : M S γ} {er : γ → List D} (ha : TE G ma ta ea) (h : TA G mr tr er) : TA G (aCons ma mr) (M.bind ta fun a => M.bind tr fun r => M.ret (a, r)) (fun p => ea p.1 :: er p.2) := fun env k => by
  rw [q_aCons]
  refine Ref.bind (ha env k) fun d a q => ?_
  rw [q_kConsa]
  refine Ref.bind (h env k) fun ds r q' => ?_
  rw [show d = ea a from q, show ds = er r from q']
  exact Ref.ret rfl
theorem ta_p {ds : List D} (h : PVs G mr ds) : TA G mr (M.ret ()) (fun _ => ds) := fun env k => by rw [h env k]; exact Ref.ret rfl
theorem te_call {fn : List D → M S D} {n : Nat} {ds : List D} {t : M S α} (hf : Ref (RD e) (fn ds) t) (h : PVs G mr ds) (hl : ds.length = n := by rfl) : TE G (eCall fn n mr) t e := fun env k => by
  rw [q_eCall, h env k, q_bind_ret]
  unfold kCall
  rw [if_pos hl]
  exact hf
theorem te_callm {fn : List D → M S D} {n : Nat} {ta : M S β} {er : β → List D} {t : β → M S α} (h : TA G mr ta er) (hf : ∀ b, Ref (RD e) (fn (er b)) (t b)) (hl : ∀ b, (er b).length = n := by intro _; rfl) : TE G (eCall fn n mr) (M.bind ta t) e := fun env k => by
  rw [q_eCall]
  refine Ref.bind (h env k) fun ds b q => ?_
  rw [show ds = er b from q]
  unfold kCall
  rw [if_pos (hl b)]
  exact hf b
theorem te_cbm {f : List D → Option D} {ta : M S β} {er : β → List D} {t : β → M S α} (h : TA G mr ta er) (hf : ∀ b, Ref (RD e) (M.ofO (f (er b))) (t b)) : TE G (eCB f mr) (M.bind ta t) e := fun env k => by
  rw [q_eCB]
  refine Ref.bind (h env k) fun ds b q => ?_
  rw [q_kCB, show ds = er b from q]
  exact hf b
theorem te_cb {f : List D → Option D} {ds : List D} {t : M S α} (hf : Ref (RD e) (M.ofO (f ds)) t) (h : PVs G mr ds) : TE G (eCB f mr) t e := fun env k => by
  rw [q_eCB, h env k, q_bind_ret, q_kCB]
  exact hf
theorem te_tupm {ta : M S β} {er : β → List D} (h : TA G mr ta er) (f : β → α) (q : ∀ b, e (f b) = .tup (er b) := by intro _; rfl) (hl : ∀ b, (er b).length ≤ 4096 := by exact fun _ => Nat.le_of_ble_eq_true rfl) : TE G (eTup mr) (M.bind ta fun b => M.ret (f b)) e := fun env k => by
  rw [q_eTup]
  refine Ref.bind (h env k) fun ds b z => ?_
  rw [show ds = er b from z]
  unfold kTup
  rw [if_pos (hl b)]
  exact Ref.ret (q b).symm
theorem te_lstm {ta : M S β} {er : β → List D} (h : TA G mr ta er) (f : β → α) (q : ∀ b, e (f b) = .lst (er b) := by intro _; rfl) (hl : ∀ b, (er b).length ≤ 4096 := by exact fun _ => Nat.le_of_ble_eq_true rfl) : TE G (eLst mr) (M.bind ta fun b => M.ret (f b)) e := fun env k => by
  rw [q_eLst]
  refine Ref.bind (h env k) fun ds b z => ?_
  rw [show ds = er b from z]
  unfold kLst
  rw [if_pos (hl b)]
  exact Ref.ret (q b).symm
theorem te_and {t u : M S Bool} (ha : TE G ma t .bl) (hb : TE G mb u .bl) : TE G (eAnd2 ma mb) (andM t u) .bl := fun env k => by
  rw [q_eAnd2]
  refine Ref.bind (ha env k) fun d b q => ?_
  rw [show d = .bl b from q]
  cases b with
  | true => rw [q_kAndE1, if_pos rfl]; exact hb env k
  | false => rw [q_kAndE2, if_neg (by decide)]; exact Ref.ret rfl
theorem te_or {t u : M S Bool} (ha : TE G ma t .bl) (hb : TE G mb u .bl) : TE G (eOr2 ma mb) (orM t u) .bl := fun env k => by
  rw [q_eOr2]
  refine Ref.bind (ha env k) fun d b q => ?_
  rw [show d = .bl b from q]
  cases b with
  | true => rw [q_kOrE1, if_pos rfl]; exact Ref.ret rfl
  | false => rw [q_kOrE2, if_neg (by decide)]; exact hb env k
theorem te_not {t : M S Bool} (ha : TE G ma t .bl) : TE G (eNot1 ma) (notM t) .bl := fun env k => by
  rw [q_eNot1]
  refine Ref.bind (ha env k) fun d b q => ?_
  rw [show d = .bl b from q, q_kNotE]
  exact Ref.ret rfl
theorem te_if {t : M S Bool} {x y : M S α} (ht : TTb G mt t) (ha : TE G ma x e) (hb : TE G mb y e) : TE G (eIf mt ma mb) (M.bind t fun b => if b = true then x else y) e := fun env k => by
  rw [q_eIf]
  refine Ref.bind (ht env k) fun b a q => ?_
  subst q
  exact Ref.ite (fun _ => ha env k) fun _ => hb env k
/-- arguments of a cut -/
def TOi (G : Gm) (m : EnO S) (t : M S (Option Int)) : Prop := ∀ env, Kn G env → Ref Eq (m env) t
theorem to_p {o : Option Int} {mo : EnO S} (h : POi G mo o) : TOi G mo (M.ret o) := fun env k => by rw [h env k]; exact Ref.ret rfl
theorem to_some {t : M S Int} (h : TE G m t .int) : TOi G (oSome m) (M.bind t fun i => M.ret (some i)) := fun env k => by
  rw [q_oSome]
  refine Ref.bind (h env k) fun d i q => ?_
  rw [show d = .int i from q]
  exact Ref.ret rfl
theorem te_cutm {ml mh : EnO S} {t : M S β} {tl th : M S (Option Int)} {g : β → Option Int → Option Int → M S α} (h : TE G m t ea) (hl : TOi G ml tl) (hh : TOi G mh th) (q : ∀ a lo hi, Ref (RD e) (M.ofO (dCut (ea a) lo hi)) (g a lo hi)) : TE G (eCut m ml mh) (M.bind t fun a => M.bind tl fun lo => M.bind th fun hi => g a lo hi) e := fun env k => by
  rw [q_eCut]
  refine Ref.bind (h env k) fun d a z => ?_
  rw [q_kCut0]
  refine Ref.bind (hl env k) fun lo lo' z1 => ?_
  rw [q_kCut1]
  refine Ref.bind (hh env k) fun hi hi' z2 => ?_
  rw [q_kCut2, show d = ea a from z, z1, z2]
  exact q a lo' hi'
end
end DD
namespace DD
open PySem PySem.Spec PyProof.Rows L2
/-! ### loops over typed items -/
/-- how a turn ends: on, out of the loop, out of the def -/
inductive Ctl (ρ σ : Type) where
  | nx (st : σ)
  | bk (st : σ)
  | rt (v : ρ)
section
variable {S α σ ρ β γ : Type}
def forS (f : α → σ → M S σ) : List α → σ → M S σ
  | [], st => M.ret st
  | x :: xs, st => M.bind (f x st) (forS f xs)
def forC (f : α → σ → M S (Ctl ρ σ)) : List α → σ → M S (ρ ⊕ σ)
  | [], st => M.ret (.inr st)
  | x :: xs, st => M.bind (f x st) fun c => match c with
    | .nx st => forC f xs st
    | .bk st => M.ret (.inr st)
    | .rt v => M.ret (.inl v)
def whileS (t : σ → M S Bool) (f : σ → M S σ) : Nat → σ → M S σ
  | 0, _ => M.fail
  | n + 1, st => M.bind (t st) fun b => if b = true then M.bind (f st) (whileS t f n) else M.ret st
def whileC (t : σ → M S Bool) (f : σ → M S (Ctl ρ σ)) : Nat → σ → M S (ρ ⊕ σ)
  | 0, _ => M.fail
  | n + 1, st => M.bind (t st) fun b => if b = true then M.bind (f st) fun c => (match c with
    | .nx st => whileC t f n st
    | .bk st => M.ret (.inr st)
    | .rt v => M.ret (.inl v)) else M.ret (.inr st)
def lpK (l : ρ → M S β) (k : σ → M S β) : ρ ⊕ σ → M S β
  | .inl v => l v
  | .inr st => k st
def compT (p : α → M S Bool) (g : α → M S β) : List α → M S (List β)
  | [] => M.ret []
  | x :: xs => M.bind (noex (p x)) fun b => if b = true then M.bind (noex (g x)) fun y => M.bind (compT p g xs) fun r => M.ret (y :: r) else compT p g xs
def lcM (p : α → M S Bool) (g : α → M S β) (xs : List α) : M S (List β) := if xs.length ≤ 16777216 then compT p g xs else M.fail
def appM (l : List α) (x : α) : M S (List α) := if l.length < 16777216 then M.ret (l ++ [x]) else M.fail
def putM {κ : Type} [DecidableEq κ] (l : List (κ × α)) (k : κ) (v : α) : M S (List (κ × α)) := if l.length < 16777216 then M.ret (putT l k v) else M.fail
def putL (l : List α) (i : Int) (v : α) : M S (List α) := match ixN l.length i with
  | some n => M.ret (l.set n v)
  | none => M.fail
def addM {κ : Type} [DecidableEq κ] (l : List κ) (a : κ) : M S (List κ) := if l.length < 4000 then M.ret (addT l a) else M.fail
def rngL (lo : Int) (n : Nat) : List Int := (List.range n).map fun i => lo + (i : Nat)
def rng1 (j : Int) : M S (List Int) := if j.natAbs ≤ 16777216 then M.ret (rngL 0 j.toNat) else M.fail
def rng2 (i j : Int) : M S (List Int) := if i.natAbs ≤ 16777216 ∧ j.natAbs ≤ 16777216 then M.ret (rngL i (j - i).toNat) else M.fail
def enumL (l : List α) : List (Int × α) := l.mapIdx fun i x => ((i : Nat), x)
def chrL (x : Str) : List Str := x.cps.toList.map fun c => ⟨#[c]⟩
end
/-! ### ends of statements -/
section
variable {S α β γ δ ρ σ τ : Type} {G G' : Gm} {m ma mb mc me mx : En S D} {x y rest body : En S Fl} {mr : En S (List D)} {mt : En S Bool} {e : α → D} {ea : β → D} {er : ρ → D} {v : α} {R : Fl → γ → Prop} {t : M S γ} {i : Nat} {al : List Nat}
/-- the def's value -/
def RT (e : ρ → D) (f : Fl) (v : ρ) : Prop := f = .rt (e v) ∨ ∃ env, f = .nx env ∧ e v = .non
/-- on -/
def RN (Gs : σ → Gm) (f : Fl) (st : σ) : Prop := ∃ env, f = .nx env ∧ Kn (Gs st) env
/-- a turn's end, where no other comes -/
def RL (Gs : σ → Gm) (f : Fl) (st : σ) : Prop := ∃ env, (f = .nx env ∨ f = .ct env) ∧ Kn (Gs st) env
/-- a turn's end -/
def RC (e : ρ → D) (Gs : σ → Gm) (f : Fl) : Ctl ρ σ → Prop
  | .nx st => ∃ env, (f = .nx env ∨ f = .ct env) ∧ Kn (Gs st) env
  | .bk st => ∃ env, f = .bk env ∧ Kn (Gs st) env
  | .rt v => f = .rt (e v)
/-- an if that may leave a turn or the def, or go on -/
def RJ (e : ρ → D) (Gs : σ → Gm) (f : Fl) : ρ ⊕ σ → Prop
  | .inl v => f = .rt (e v)
  | .inr st => ∃ env, f = .nx env ∧ Kn (Gs st) env
def TS (G : Gm) (m : En S Fl) (t : M S α) (R : Fl → α → Prop) : Prop := ∀ env, Kn G env → Ref R (m env) t
theorem kSeq_ret (f : Fl) : kSeq sNext f = (M.ret f : M S Fl) := by cases f <;> rfl
theorem seq_last (x : En S Fl) (env : List Sl) : sSeq x sNext env = x env := by
  rw [q_sSeq]
  have : (kSeq sNext : Fl → M S Fl) = M.ret := funext kSeq_ret
  rw [this, M.bind_ret]
theorem seq_assoc (x y z : En S Fl) (env : List Sl) : sSeq (sSeq x y) z env = sSeq x (sSeq y z) env := by
  rw [q_sSeq, q_sSeq, q_sSeq, M.bind_assoc]
  congr 1
  funext f
  cases f <;> rfl
theorem ts_last (h : TS G (sSeq x sNext) t R) : TS G x t R := fun env k => by
  have := h env k
  rwa [seq_last] at this
theorem ts_assoc {z : En S Fl} (h : TS G (sSeq x (sSeq y z)) t R) : TS G (sSeq (sSeq x y) z) t R := fun env k => by rw [seq_assoc]; exact h env k
theorem ts_skip (h : TS G rest t R) : TS G (sSeq sNext rest) t R := fun env k => h env k
theorem ts_wk (w : Wk G G') (h : TS G' x t R) : TS G x t R := fun env k => h env (w.kn k)
/-! ends -/
theorem ts_end {a : γ} (h : ∀ env, Kn G env → R (.nx env) a) : TS (S := S) G sNext (M.ret a) R := fun env k => Ref.ret (h env k)
theorem end_N {Gs : σ → Gm} (st : σ) (w : Wk G (Gs st)) : TS (S := S) G sNext (M.ret st) (RN Gs) := ts_end fun env k => ⟨env, rfl, w.kn k⟩
theorem end_L {Gs : σ → Gm} (st : σ) (w : Wk G (Gs st)) : TS (S := S) G sNext (M.ret st) (RL Gs) := ts_end fun env k => ⟨env, .inl rfl, w.kn k⟩
theorem end_C {Gs : σ → Gm} (st : σ) (w : Wk G (Gs st)) : TS (S := S) G sNext (M.ret (.nx st)) (RC er Gs) := ts_end fun env k => ⟨env, .inl rfl, w.kn k⟩
theorem end_J {Gs : σ → Gm} (st : σ) (w : Wk G (Gs st)) : TS (S := S) G sNext (M.ret (.inr st)) (RJ er Gs) := ts_end fun env k => ⟨env, rfl, w.kn k⟩
theorem end_T (v : ρ) (h : er v = .non := by rfl) : TS (S := S) G sNext (M.ret v) (RT er) := ts_end fun env k => .inr ⟨env, rfl, h⟩
theorem cnt_L {Gs : σ → Gm} (st : σ) (w : Wk G (Gs st)) : TS (S := S) G (sSeq sCnt rest) (M.ret st) (RL Gs) := fun env k => Ref.ret ⟨env, .inr rfl, w.kn k⟩
theorem cnt_C {Gs : σ → Gm} (st : σ) (w : Wk G (Gs st)) : TS (S := S) G (sSeq sCnt rest) (M.ret (.nx st)) (RC er Gs) := fun env k => Ref.ret ⟨env, .inr rfl, w.kn k⟩
theorem brk_C {Gs : σ → Gm} (st : σ) (w : Wk G (Gs st)) : TS (S := S) G (sSeq sBrk rest) (M.ret (.bk st)) (RC er Gs) := fun env k => Ref.ret ⟨env, rfl, w.kn k⟩
/-- what a return makes of its value -/
structure RtK (e : ρ → D) (R : Fl → γ → Prop) (f : ρ → γ) : Prop where
  ok : ∀ v, R (.rt (e v)) (f v)
theorem rk_T : RtK er (RT er) id := ⟨fun _ => .inl rfl⟩
theorem rk_C {Gs : σ → Gm} : RtK er (RC er Gs) Ctl.rt := ⟨fun _ => rfl⟩
theorem rk_J {Gs : σ → Gm} : RtK er (RJ er Gs) Sum.inl := ⟨fun _ => rfl⟩
theorem ret_p {f : ρ → γ} {v : ρ} (r : RtK er R f) (h : PV G m v er) : TS G (sSeq (sRet m) rest) (M.ret (f v)) R := fun env k => by
  rw [q_sSeq, q_sRet, h env k]
  exact Ref.ret (r.ok v)
theorem ret_m {f : ρ → γ} {t : M S ρ} (r : RtK er R f) (h : TE G m t er) : TS G (sSeq (sRet m) rest) (M.bind t fun v => M.ret (f v)) R := fun env k => by
  rw [q_sSeq, q_sRet, M.bind_assoc]
  refine Ref.bind (h env k) fun d v q => ?_
  rw [show d = er v from q]
  exact Ref.ret (r.ok v)
theorem ret_pT {v : ρ} (h : PV G m v er) : TS G (sSeq (sRet m) rest) (M.ret v) (RT er) := ret_p rk_T h
theorem ret_pC {Gs : σ → Gm} {v : ρ} (h : PV G m v er) : TS G (sSeq (sRet m) rest) (M.ret (Ctl.rt v)) (RC er Gs) := ret_p rk_C h
theorem ret_pJ {Gs : σ → Gm} {v : ρ} (h : PV G m v er) : TS G (sSeq (sRet m) rest) (M.ret (Sum.inl v)) (RJ er Gs) := ret_p rk_J h
theorem ret_mC {Gs : σ → Gm} {t : M S ρ} (h : TE G m t er) : TS G (sSeq (sRet m) rest) (M.bind t fun v => M.ret (Ctl.rt v)) (RC er Gs) := ret_m rk_C h
theorem ret_mJ {Gs : σ → Gm} {t : M S ρ} (h : TE G m t er) : TS G (sSeq (sRet m) rest) (M.bind t fun v => M.ret (Sum.inl v)) (RJ er Gs) := ret_m rk_J h
theorem ret_t {t : M S ρ} (h : TE G m t er) : TS G (sSeq (sRet m) rest) t (RT er) := fun env k => by
  have := ret_m (rest := rest) rk_T h env k
  have z : (fun v : ρ => (M.ret (id v) : M S ρ)) = M.ret := rfl
  rwa [z, M.bind_ret] at this
theorem ret_n {f : ρ → γ} {v : ρ} (r : RtK er R f) (h : er v = .non := by rfl) : TS (S := S) G (sSeq sRetN rest) (M.ret (f v)) R := fun env k => by
  have := r.ok v
  rw [h] at this
  exact Ref.ret this
theorem ret_nT (v : ρ) (h : er v = .non := by rfl) : TS (S := S) G (sSeq sRetN rest) (M.ret v) (RT er) := ret_n rk_T h
theorem ret_nC {Gs : σ → Gm} (v : ρ) (h : er v = .non := by rfl) : TS (S := S) G (sSeq sRetN rest) (M.ret (Ctl.rt v)) (RC er Gs) := ret_n rk_C h
theorem ret_nJ {Gs : σ → Gm} (v : ρ) (h : er v = .non := by rfl) : TS (S := S) G (sSeq sRetN rest) (M.ret (Sum.inl v)) (RJ er Gs) := ret_n rk_J h
theorem ts_raise {c : Str} {fl : List Str} {ds : List D} (fs : List (Str × D)) (h : PVs G mr ds) (q : (fl.zip ds).reverse = fs := by rfl) (hl : ds.length = fl.length ∧ fl.length ≤ 900 := by exact ⟨rfl, by decide⟩) : TS G (sSeq (sRaise c fl mr) rest) (M.exn c fs : M S γ) R := fun env k => by
  rw [q_sSeq, q_sRaise, h env k, q_bind_ret]
  unfold kRaise
  rw [if_pos hl, q, q_bind_exn]
  exact Ref.exn
theorem ts_raisem {c : Str} {fl : List Str} {t : M S β} {er' : β → List D} (h : TA G mr t er') (fs : β → List (Str × D)) (q : ∀ b, (fl.zip (er' b)).reverse = fs b := by intro _; rfl) (hl : ∀ b, (er' b).length = fl.length ∧ fl.length ≤ 900 := by exact fun _ => ⟨rfl, by decide⟩) : TS G (sSeq (sRaise c fl mr) rest) (M.bind t fun b => (M.exn c (fs b) : M S γ)) R := fun env k => by
  rw [q_sSeq, q_sRaise, M.bind_assoc]
  refine Ref.bind (h env k) fun ds b z => ?_
  unfold kRaise
  rw [show ds = er' b from z, if_pos (hl b), q b, q_bind_exn]
  exact Ref.exn
/-! assignments -/
structure Hd (e : α → D) : Prop where
  ok : ∀ a, (e a).hard = true
theorem hards_map (h : Hd e) : ∀ l : List α, hards (l.map e) = true
  | [] => rfl
  | a :: l => by rw [List.map_cons, hards, h.ok a, hards_map h l]; rfl
theorem hd_int : Hd D.int := ⟨fun _ => rfl⟩
theorem hd_str : Hd D.str := ⟨fun _ => rfl⟩
theorem hd_bl : Hd D.bl := ⟨fun _ => rfl⟩
theorem hd_u : Hd eU := ⟨fun _ => rfl⟩
theorem hd_T (h : Hd e) : Hd (eT e) := ⟨fun l => by unfold eT; rw [D.hard]; exact hards_map h l⟩
theorem hd_O (h : Hd e) : Hd (eO e) := ⟨fun o => by cases o with | none => rfl | some a => exact h.ok a⟩
section
variable {α1 α2 α3 α4 α5 α6 : Type} {e1 : α1 → D} {e2 : α2 → D} {e3 : α3 → D} {e4 : α4 → D} {e5 : α5 → D} {e6 : α6 → D}
theorem hd_P (h1 : Hd e1) (h2 : Hd e2) : Hd (eP e1 e2) := ⟨fun p => by unfold eP; simp only [D.hard, hards, h1.ok, h2.ok, Bool.and_self]⟩
theorem hd_P3 (h1 : Hd e1) (h2 : Hd e2) (h3 : Hd e3) : Hd (eP3 e1 e2 e3) := ⟨fun p => by unfold eP3; simp only [D.hard, hards, h1.ok, h2.ok, h3.ok, Bool.and_self]⟩
theorem hd_P4 (h1 : Hd e1) (h2 : Hd e2) (h3 : Hd e3) (h4 : Hd e4) : Hd (eP4 e1 e2 e3 e4) := ⟨fun p => by unfold eP4; simp only [D.hard, hards, h1.ok, h2.ok, h3.ok, h4.ok, Bool.and_self]⟩
theorem hd_P5 (h1 : Hd e1) (h2 : Hd e2) (h3 : Hd e3) (h4 : Hd e4) (h5 : Hd e5) : Hd (eP5 e1 e2 e3 e4 e5) := ⟨fun p => by unfold eP5; simp only [D.hard, hards, h1.ok, h2.ok, h3.ok, h4.ok, h5.ok, Bool.and_self]⟩
theorem hd_P6 (h1 : Hd e1) (h2 : Hd e2) (h3 : Hd e3) (h4 : Hd e4) (h5 : Hd e5) (h6 : Hd e6) : Hd (eP6 e1 e2 e3 e4 e5 e6) := ⟨fun p => by unfold eP6; simp only [D.hard, hards, h1.ok, h2.ok, h3.ok, h4.ok, h5.ok, h6.ok, Bool.and_self]⟩
end
/-- the slots behind an assignment -/
inductive Es (al : List Nat) (e : α → D) (G : Gm) : Gm → Prop
  | nil (h : al = []) : Es al e G G
  | hard (h : Hd e) : Es al e G G
  | fgt : Es al e G (fgtG al G)
theorem Es.kn (h : Es al e G G') (a : α) {env : List Sl} (k : Kn G env) : Kn G' (esc al (e a) env) := by
  cases h with
  | nil h => subst h; exact k
  | hard h => rw [q_esc_hard (h.ok a)]; exact k
  | fgt =>
    unfold esc
    cases al with
    | nil => exact k
    | cons j al =>
      by_cases q : (e a).hard = true
      · show Kn _ (if (e a).hard = true then env else _)
        rw [if_pos q]
        exact k.fgt
      · show Kn _ (if (e a).hard = true then env else _)
        rw [if_neg q]
        exact k.fgtf
inductive EsI (al : List Nat) (e : α → D) (G : Gm) : Gm → Prop
  | nil (h : al = []) : EsI al e G G
  | hard (h : ∀ a, (e a).hardIn = true) : EsI al e G G
  | fgt : EsI al e G (fgtG al G)
theorem hi_L (h : Hd e) (l : List α) : (eL e l).hardIn = true := hards_map h l
theorem EsI.kn (h : EsI al e G G') (a : α) {env : List Sl} (k : Kn G env) : Kn G' (escI al (e a) env) := by
  cases h with
  | nil h => subst h; exact k
  | hard h => rw [q_escI_hard (h a)]; exact k
  | fgt =>
    unfold escI
    cases al with
    | nil => exact k
    | cons j al =>
      by_cases q : (e a).hardIn = true
      · show Kn _ (if (e a).hardIn = true then env else _)
        rw [if_pos q]
        exact k.fgt
      · show Kn _ (if (e a).hardIn = true then env else _)
        rw [if_neg q]
        exact k.fgtf
theorem asg_p (s : Es al e G G') (h : PV G m v e) (k : TS (stG G' i (some (.fz (e v)))) rest t R) : TS G (sSeq (sAsg i al m) rest) t R := fun env q => by
  rw [q_sSeq, q_sAsg, h env q]
  exact k _ (Kn.set (s.kn v q))
theorem asg_m {ta : M S α} {k : α → M S γ} (s : Es al e G G') (h : TE G m ta e) (hk : ∀ a, TS (stG G' i (some (.fz (e a)))) rest (k a) R) : TS G (sSeq (sAsg i al m) rest) (M.bind ta k) R := fun env q => by
  rw [q_sSeq, q_sAsg, M.bind_assoc]
  refine Ref.bind (h env q) fun d a z => ?_
  rw [show d = e a from z]
  exact hk a _ (Kn.set (s.kn a q))
theorem asgF_p (s : EsI al e G G') (h : PV G m v e) (k : TS (stG G' i (some (.ow (e v)))) rest t R) : TS G (sSeq (sAsgF i al m) rest) t R := fun env q => by
  rw [q_sSeq, q_sAsgF, h env q]
  exact k _ (Kn.set (s.kn v q))
theorem asgF_m {ta : M S α} {k : α → M S γ} (s : EsI al e G G') (h : TE G m ta e) (hk : ∀ a, TS (stG G' i (some (.ow (e a)))) rest (k a) R) : TS G (sSeq (sAsgF i al m) rest) (M.bind ta k) R := fun env q => by
  rw [q_sSeq, q_sAsgF, M.bind_assoc]
  refine Ref.bind (h env q) fun d a z => ?_
  rw [show d = e a from z]
  exact hk a _ (Kn.set (s.kn a q))
/-- a target that takes d -/
def TG (tg : D → List Sl → Option (List Sl)) (d : D) (G G' : Gm) : Prop := ∀ env, Kn G env → ∃ env', tg d env = some env' ∧ Kn G' env'
def TGs (tg : List D → List Sl → Option (List Sl)) (ds : List D) (G G' : Gm) : Prop := ∀ env, Kn G env → ∃ env', tg ds env = some env' ∧ Kn G' env'
theorem tg_n {d : D} : TG (tgN i) d G (stG G i (some (.fz d))) := fun env k => ⟨_, rfl, k.set⟩
theorem tgs_nil : TGs tgNil [] G G := fun env k => ⟨_, rfl, k⟩
theorem tgs_cons {tg : D → List Sl → Option (List Sl)} {us : List D → List Sl → Option (List Sl)} {d : D} {ds : List D} {G1 G2 : Gm} (h : TG tg d G G1) (h2 : TGs us ds G1 G2) : TGs (tgCons tg us) (d :: ds) G G2 := fun env k => by
  obtain ⟨e1, q1, k1⟩ := h env k
  obtain ⟨e2, q2, k2⟩ := h2 e1 k1
  exact ⟨e2, by rw [q_tgCons, q1]; exact q2, k2⟩
theorem tg_tup {n : Nat} {us : List D → List Sl → Option (List Sl)} {d : D} (ds : List D) (h : TGs us ds G G') (q : d = .tup ds := by rfl) (hl : ds.length = n := by rfl) : TG (tgTup n us) d G G' := fun env k => by
  rw [q, q_tgTup hl]
  exact h env k
theorem asgG_p {tg : D → List Sl → Option (List Sl)} {G1 G2 : Gm} (s : Es al e G G1) (h : PV G m v e) (g : TG tg (e v) G1 G2) (k : TS G2 rest t R) : TS G (sSeq (sAsgG tg al m) rest) t R := fun env q => by
  rw [q_sSeq, q_sAsgG, h env q, q_bind_ret, q_kAsgG]
  obtain ⟨e2, q2, k2⟩ := g _ (s.kn v q)
  rw [q2, q_kOpt1]
  exact k _ k2
theorem asgG_m {tg : D → List Sl → Option (List Sl)} {ta : M S α} {k : α → M S γ} {G1 : Gm} {G2 : α → Gm} (s : Es al e G G1) (h : TE G m ta e) (g : ∀ a, TG tg (e a) G1 (G2 a)) (hk : ∀ a, TS (G2 a) rest (k a) R) : TS G (sSeq (sAsgG tg al m) rest) (M.bind ta k) R := fun env q => by
  rw [q_sSeq, q_sAsgG, M.bind_assoc]
  refine Ref.bind (h env q) fun d a z => ?_
  rw [show d = e a from z]
  obtain ⟨e2, q2, k2⟩ := g a _ (s.kn a q)
  show Ref R (M.bind (kAsgG tg al env (e a)) (kSeq rest)) _
  rw [q_kAsgG, q2, q_kOpt1]
  exact hk a _ k2
theorem aug_p {f : D → D → Option D} {a : β} {b : δ} {eb : δ → D} {c : α} (o : f (ea a) (eb b) = some (e c)) (hh : Hd e) (g : gtG G i = some (.fz (ea a))) (h : PV G m b eb) (k : TS (stG G i (some (.fz (e c)))) rest t R) : TS G (sSeq (sAug i f m) rest) t R := fun env q => by
  rw [q_sSeq, q_sAug, q.get g, q_kAug0, h env q, q_bind_ret, q_kAug1, o, q_kAug2 (hh.ok c)]
  exact k _ q.set
theorem aug_m {f : D → D → Option D} {a : β} {tb : M S δ} {eb : δ → D} {u : δ → M S α} {k : α → M S γ} (o : ∀ b, Ref (RD e) (M.ofO (f (ea a) (eb b))) (u b)) (hh : Hd e) (g : gtG G i = some (.fz (ea a))) (h : TE G m tb eb) (hk : ∀ c, TS (stG G i (some (.fz (e c)))) rest (k c) R) : TS G (sSeq (sAug i f m) rest) (M.bind tb fun b => M.bind (u b) k) R := fun env q => by
  rw [q_sSeq, q_sAug, q.get g, q_kAug0, M.bind_assoc]
  refine Ref.bind (h env q) fun d b z => ?_
  rw [show d = eb b from z, q_kAug1]
  have o := o b
  -- the sum
  intro s
  have o := o s
  cases w : u b s with
  | ok c s' =>
    rw [w] at o
    obtain ⟨d', hd, z'⟩ := o
    have hf : f (ea a) (eb b) = some (e c) := by
      cases ff : f (ea a) (eb b) with
      | none => rw [ff] at hd; cases hd
      | some y => rw [ff] at hd; cases hd; rw [show d' = e c from z']
    have hs : s' = s := by rw [hf] at hd; cases hd; rfl
    subst hs
    rw [hf, q_kAug2 (hh.ok c), q_bind_ret, bnd_ok w]
    exact hk c _ q.set s'
  | ex c fs s' =>
    rw [w] at o
    cases ff : f (ea a) (eb b) with
    | none => rw [ff] at o; cases o
    | some y => rw [ff] at o; cases o
  | bad => rw [bnd_bad w]; trivial
/-- x.append(e) -/
theorem app_p {k : List α → M S γ} {l : List α} (s : Es al e G G') (g0 : gtG G i = some (.ow (eL e l))) (g : gtG G' i = some (.ow (eL e l))) (h : PV G m v e) (hk : ∀ l', TS (stG G' i (some (.ow (eL e l')))) rest (k l') R) : TS G (sSeq (sApp i al m) rest) (M.bind (appM l v) k) R := fun env q => by
  have q' := s.kn v q
  rw [q_sSeq, q_sApp, q.get g0]
  show Ref R (M.bind (kApp0 i al m env (some (.ow (.lst (l.map e))))) _) _
  rw [q_kApp0, h env q, q_bind_ret, q_kApp1, q'.get g]
  show Ref R (M.bind (kApp2 i _ (e v) (some (.ow (.lst (l.map e))))) _) _
  unfold appM
  by_cases c : l.length < 16777216
  · rw [if_pos c, q_kApp2 (by rw [List.length_map]; exact c)]
    have := hk (l ++ [v]) _ (Kn.set (i := i) q')
    rw [show eL e (l ++ [v]) = .lst (l.map e ++ [e v]) by unfold eL; rw [List.map_append]; rfl] at this
    exact this
  · rw [if_neg c]
    exact Ref.fail
theorem app_m {k : List α → M S γ} {l : List α} {ta : M S α} (s : Es al e G G') (g0 : gtG G i = some (.ow (eL e l))) (g : gtG G' i = some (.ow (eL e l))) (h : TE G m ta e) (hk : ∀ l', TS (stG G' i (some (.ow (eL e l')))) rest (k l') R) : TS G (sSeq (sApp i al m) rest) (M.bind ta fun a => M.bind (appM l a) k) R := fun env q => by
  rw [q_sSeq, q_sApp, q.get g0]
  show Ref R (M.bind (kApp0 i al m env (some (.ow (.lst (l.map e))))) _) _
  rw [q_kApp0, M.bind_assoc]
  refine Ref.bind (h env q) fun d a z => ?_
  rw [show d = e a from z]
  have q' := s.kn a q
  rw [q_kApp1, q'.get g]
  show Ref R (M.bind (kApp2 i _ (e a) (some (.ow (.lst (l.map e))))) _) _
  unfold appM
  by_cases c : l.length < 16777216
  · rw [if_pos c, q_kApp2 (by rw [List.length_map]; exact c)]
    have := hk (l ++ [a]) _ (Kn.set (i := i) q')
    rw [show eL e (l ++ [a]) = .lst (l.map e ++ [e a]) by unfold eL; rw [List.map_append]; rfl] at this
    exact this
  · rw [if_neg c]
    exact Ref.fail
/-- x[k] = e -/
theorem putM_m {κ : Type} [DecidableEq κ] {k : List (κ × α) → M S γ} {kk : κ → Key} {ek : κ → D} {l : List (κ × α)} {ta : M S α} {tk : M S κ} (j : Kj kk ek) (s : Es al e G G') (g0 : gtG G i = some (.ow (eM kk e l))) (g : gtG G' i = some (.ow (eM kk e l))) (h : TE G me ta e) (hx : TE G mx tk ek) (hk : ∀ l', TS (stG G' i (some (.ow (eM kk e l')))) rest (k l') R) : TS G (sSeq (sPut i al me mx) rest) (M.bind ta fun a => M.bind tk fun b => M.bind (putM l b a) k) R := fun env q => by
  rw [q_sSeq, q_sPut, M.bind_assoc]
  refine Ref.bind (h env q) fun d a z => ?_
  rw [show d = e a from z]
  have q' := s.kn a q
  rw [q_kPut0, q.get g0]
  show Ref R (M.bind (kPut1 i al mx env (e a) (some (.ow (.dct _)))) _) _
  rw [q_kPut1, M.bind_assoc]
  refine Ref.bind (hx env q) fun d b z => ?_
  rw [show d = ek b from z, q_kPut2, q'.get g, q_kPut3]
  unfold putM
  by_cases c : l.length < 16777216
  · rw [if_pos c]
    have : putAt (eM kk e l) (ek b) (e a) = some (eM kk e (putT l b a)) := by
      unfold eM putAt
      dsimp only
      rw [j.of]
      dsimp only
      rw [if_pos (by rw [List.length_map]; exact c), put_map j]
    rw [this, q_kPut4]
    exact hk _ _ q'.set
  · rw [if_neg c]
    exact Ref.fail
theorem putM_p {κ : Type} [DecidableEq κ] {k : List (κ × α) → M S γ} {kk : κ → Key} {ek : κ → D} {l : List (κ × α)} {b : κ} (j : Kj kk ek) (s : Es al e G G') (g0 : gtG G i = some (.ow (eM kk e l))) (g : gtG G' i = some (.ow (eM kk e l))) (h : PV G me v e) (hx : PV G mx b ek) (hk : ∀ l', TS (stG G' i (some (.ow (eM kk e l')))) rest (k l') R) : TS G (sSeq (sPut i al me mx) rest) (M.bind (putM l b v) k) R :=
  putM_m (ta := M.ret v) (tk := M.ret b) j s g0 g (te_p h) (te_p hx) hk
theorem putL_m {k : List α → M S γ} {l : List α} {ta : M S α} {tk : M S Int} (s : Es al e G G') (g0 : gtG G i = some (.ow (eL e l))) (g : gtG G' i = some (.ow (eL e l))) (h : TE G me ta e) (hx : TE G mx tk .int) (hk : ∀ l', TS (stG G' i (some (.ow (eL e l')))) rest (k l') R) : TS G (sSeq (sPut i al me mx) rest) (M.bind ta fun a => M.bind tk fun b => M.bind (putL l b a) k) R := fun env q => by
  rw [q_sSeq, q_sPut, M.bind_assoc]
  refine Ref.bind (h env q) fun d a z => ?_
  rw [show d = e a from z]
  have q' := s.kn a q
  rw [q_kPut0, q.get g0]
  show Ref R (M.bind (kPut1 i al mx env (e a) (some (.ow (.lst _)))) _) _
  rw [q_kPut1, M.bind_assoc]
  refine Ref.bind (hx env q) fun d b z => ?_
  rw [show d = .int b from z, q_kPut2, q'.get g, q_kPut3]
  unfold putL
  cases c : ixN l.length b with
  | some n =>
    have : putAt (eL e l) (.int b) (e a) = some (eL e (l.set n a)) := by
      unfold eL putAt
      dsimp only
      rw [List.length_map, c, List.map_set]
      rfl
    rw [this, q_kPut4]
    exact hk _ _ q'.set
  | none => exact Ref.fail
theorem putL_p {k : List α → M S γ} {l : List α} {b : Int} (s : Es al e G G') (g0 : gtG G i = some (.ow (eL e l))) (g : gtG G' i = some (.ow (eL e l))) (h : PV G me v e) (hx : PV G mx b .int) (hk : ∀ l', TS (stG G' i (some (.ow (eL e l')))) rest (k l') R) : TS G (sSeq (sPut i al me mx) rest) (M.bind (putL l b v) k) R :=
  putL_m (ta := M.ret v) (tk := M.ret b) s g0 g (te_p h) (te_p hx) hk
theorem sadd_p {κ : Type} [DecidableEq κ] {k : List κ → M S γ} {kk : κ → Key} {ek : κ → D} {l : List κ} {b : κ} (j : Kj kk ek) (g : gtG G i = some (.ow (eS kk l))) (h : PV G m b ek) (hk : ∀ l', TS (stG G i (some (.ow (eS kk l')))) rest (k l') R) : TS G (sSeq (sSAdd i m) rest) (M.bind (addM l b) k) R := fun env q => by
  rw [q_sSeq, q_sSAdd, q.get g]
  show Ref R (M.bind (kAdd0 i m env (some (.ow (.st (l.map kk))))) _) _
  rw [q_kAdd0, h env q, q_bind_ret, q_kAdd1, j.of]
  unfold addM
  by_cases c : l.length < 4000
  · rw [if_pos c, q_kAdd2 (by rw [List.length_map]; exact c), memL_map j]
    exact hk _ _ q.set
  · rw [if_neg c]
    exact Ref.fail
theorem expr_p (h : PV G m v e) (k : TS G rest t R) : TS G (sSeq (sExpr m) rest) t R := fun env q => by
  rw [q_sSeq, q_sExpr, h env q]
  exact k _ q
theorem expr_m {ta : M S α} (h : TE G m ta e) (k : TS G rest t R) : TS G (sSeq (sExpr m) rest) (M.bind ta fun _ => t) R := fun env q => by
  rw [q_sSeq, q_sExpr, M.bind_assoc]
  exact Ref.bind (h env q) fun d a z => k _ q
/-! if -/
theorem if_eq (env : List Sl) : sSeq (sIf mt x y) rest env = M.bind (mt env) fun b => if b = true then sSeq x rest env else sSeq y rest env := by
  rw [q_sSeq, q_sIf, M.bind_assoc]
  congr 1
  funext b
  cases b <;> rfl
theorem if_p {b : Bool} {tx ty : M S γ} (ht : PTb G mt b) (hx : TS G (sSeq x rest) tx R) (hy : TS G (sSeq y rest) ty R) : TS G (sSeq (sIf mt x y) rest) (if b = true then tx else ty) R := fun env q => by
  rw [if_eq, ht env q, q_bind_ret]
  exact Ref.ite (fun _ => hx env q) fun _ => hy env q
theorem if_m {tb : M S Bool} {tx ty : M S γ} (ht : TTb G mt tb) (hx : TS G (sSeq x rest) tx R) (hy : TS G (sSeq y rest) ty R) : TS G (sSeq (sIf mt x y) rest) (M.bind tb fun b => if b = true then tx else ty) R := fun env q => by
  rw [if_eq]
  refine Ref.bind (ht env q) fun b a z => ?_
  subst z
  exact Ref.ite (fun _ => hx env q) fun _ => hy env q
/-- a part that goes on with a state -/
theorem ts_cut {Gs : σ → Gm} {tx : M S σ} {k : σ → M S γ} (h : TS G x tx (RN Gs)) (hk : ∀ st, TS (Gs st) rest (k st) R) : TS G (sSeq x rest) (M.bind tx k) R := fun env q => by
  rw [q_sSeq]
  refine Ref.bind (h env q) fun f st z => ?_
  obtain ⟨env', rfl, k'⟩ := z
  exact hk st env' k'
/-- a slot's value is known to be of a finer type -/
theorem ts_re {α' β' : Type} {ea : α' → D} {eb : β' → D} {g : α' → Option β'} {a : α'} {k : β' → M S γ} (i : Nat) (hg : ∀ a b, g a = some b → ea a = eb b) (hi : gtG G i = some (.fz (ea a))) (h : ∀ b, TS (stG G i (some (.fz (eb b)))) x (k b) R) : TS G x (M.bind (M.ofO (g a)) k) R := fun env q => by
  cases e : g a with
  | none => rw [show (M.ofO (none : Option β') : M S β') = M.fail from rfl, q_bind_fail]; exact Ref.fail
  | some b =>
    rw [show (M.ofO (some b) : M S β') = M.ret b from rfl, q_bind_ret]
    have w := q.get hi
    have z : Kn (stG G i (some (.fz (eb b)))) (env.set i (.fz (eb b))) := q.set
    have hq : env.set i (.fz (eb b)) = env := by
      rw [← hg a b e]
      apply List.ext_getElem?
      intro j
      by_cases hj : i = j
      · subst hj
        rw [List.getElem?_set]
        simp only [if_true]
        rw [w]
        have : i < env.length := (List.getElem?_eq_some_iff.mp w).1
        simp [this]
      · rw [List.getElem?_set_ne hj]
    rw [hq] at z
    exact h b env z
/-- a part that leaves, or goes on -/
theorem ts_cutJ {Gs : σ → Gm} {tx : M S (ρ ⊕ σ)} {k : σ → M S γ} {f : ρ → γ} (r : RtK er R f) (h : TS G x tx (RJ er Gs)) (hk : ∀ st, TS (Gs st) rest (k st) R) : TS G (sSeq x rest) (M.bind tx (lpK (fun v => M.ret (f v)) k)) R := fun env q => by
  rw [q_sSeq]
  refine Ref.bind (h env q) fun fl c z => ?_
  cases c with
  | inl v =>
    have z : fl = .rt (er v) := z
    subst z
    exact Ref.ret (r.ok v)
  | inr st =>
    obtain ⟨env', rfl, k'⟩ := z
    exact hk st env' k'
/-! for -/
def TI (G : Gm) (mi : En S (List D)) (t : M S (List α)) (e : α → D) : Prop := ∀ env, Kn G env → Ref (fun ds xs => ds = List.map e xs) (mi env) t
def PI (G : Gm) (mi : En S (List D)) (xs : List α) (e : α → D) : Prop := ∀ env, Kn G env → mi env = M.ret (xs.map e)
theorem ti_p {mi : En S (List D)} {xs : List α} (h : PI G mi xs e) : TI G mi (M.ret xs) e := fun env k => by rw [h env k]; exact Ref.ret rfl
variable {tg : D → List Sl → Option (List Sl)} {mi : En S (List D)}
theorem forS_ref {Gs : σ → Gm} {Gb : α → σ → Gm} {f : α → σ → M S σ} (hg : ∀ a st, TG tg (e a) (Gs st) (Gb a st)) (hb : ∀ a st, TS (Gb a st) body (f a st) (RL Gs)) : ∀ (xs : List α) (st : σ) (env : List Sl), Kn (Gs st) env → Ref (RN Gs) (forD tg body (xs.map e) env) (forS f xs st)
  | [], st, env, k => Ref.ret ⟨env, rfl, k⟩
  | a :: xs, st, env, k => by
    obtain ⟨e1, q1, k1⟩ := hg a st env k
    rw [List.map_cons, q_forD_cons, q1, q_kForO]
    refine Ref.bind (hb a st e1 k1) fun fl st' z => ?_
    obtain ⟨e2, q2, k2⟩ := z
    rcases q2 with rfl | rfl
    · rw [q_kForF1]; exact forS_ref hg hb xs st' e2 k2
    · rw [q_kForF2]; exact forS_ref hg hb xs st' e2 k2
theorem forC_ref {Gs : σ → Gm} {Gb : α → σ → Gm} {f : α → σ → M S (Ctl ρ σ)} (hg : ∀ a st, TG tg (e a) (Gs st) (Gb a st)) (hb : ∀ a st, TS (Gb a st) body (f a st) (RC er Gs)) : ∀ (xs : List α) (st : σ) (env : List Sl), Kn (Gs st) env → Ref (RJ er Gs) (forD tg body (xs.map e) env) (forC f xs st)
  | [], st, env, k => Ref.ret (R := RJ er Gs) (b := Fl.nx env) (a := Sum.inr st) ⟨env, rfl, k⟩
  | a :: xs, st, env, k => by
    obtain ⟨e1, q1, k1⟩ := hg a st env k
    rw [List.map_cons, q_forD_cons, q1, q_kForO]
    refine Ref.bind (hb a st e1 k1) fun fl c z => ?_
    cases c with
    | nx st' =>
      obtain ⟨e2, q2, k2⟩ := z
      rcases q2 with rfl | rfl
      · rw [q_kForF1]; exact forC_ref hg hb xs st' e2 k2
      · rw [q_kForF2]; exact forC_ref hg hb xs st' e2 k2
    | bk st' =>
      obtain ⟨e2, rfl, k2⟩ := z
      exact Ref.ret (R := RJ er Gs) (b := Fl.nx e2) (a := Sum.inr st') ⟨e2, rfl, k2⟩
    | rt v =>
      have z : fl = .rt (er v) := z
      subst z
      exact Ref.ret (R := RJ er Gs) (b := Fl.rt (er v)) (a := Sum.inl v) rfl
theorem for_p {Gs : σ → Gm} {Gb : α → σ → Gm} {xs : List α} {f : α → σ → M S σ} {k : σ → M S γ} (st : σ) (hi : PI G mi xs e) (w : Wk (frzG al G) (Gs st)) (hg : ∀ a st, TG tg (e a) (Gs st) (Gb a st)) (hb : ∀ a st, TS (Gb a st) body (f a st) (RL Gs)) (hk : ∀ st, TS (Gs st) rest (k st) R) : TS G (sSeq (sFor al mi tg body) rest) (M.bind (forS f xs st) k) R :=
  ts_cut (fun env q => by
    rw [q_sFor, hi env q, q_bind_ret, q_kFor]
    exact forS_ref hg hb xs st _ (w.kn q.frz)) hk
theorem for_m {Gs : σ → Gm} {Gb : α → σ → Gm} {tx : M S (List α)} {f : α → σ → M S σ} {k : σ → M S γ} (st : σ) (hi : TI G mi tx e) (w : Wk (frzG al G) (Gs st)) (hg : ∀ a st, TG tg (e a) (Gs st) (Gb a st)) (hb : ∀ a st, TS (Gb a st) body (f a st) (RL Gs)) (hk : ∀ st, TS (Gs st) rest (k st) R) : TS G (sSeq (sFor al mi tg body) rest) (M.bind (M.bind tx fun xs => forS f xs st) k) R :=
  ts_cut (fun env q => by
    rw [q_sFor]
    refine Ref.bind (hi env q) fun ds xs z => ?_
    rw [q_kFor, show ds = xs.map e from z]
    exact forS_ref hg hb xs st _ (w.kn q.frz)) hk
theorem forc_p {Gs : σ → Gm} {Gb : α → σ → Gm} {xs : List α} {f : α → σ → M S (Ctl ρ σ)} {k : σ → M S γ} {l : ρ → γ} (st : σ) (r : RtK er R l) (hi : PI G mi xs e) (w : Wk (frzG al G) (Gs st)) (hg : ∀ a st, TG tg (e a) (Gs st) (Gb a st)) (hb : ∀ a st, TS (Gb a st) body (f a st) (RC er Gs)) (hk : ∀ st, TS (Gs st) rest (k st) R) : TS G (sSeq (sFor al mi tg body) rest) (M.bind (forC f xs st) (lpK (fun v => M.ret (l v)) k)) R :=
  ts_cutJ r (fun env q => by
    rw [q_sFor, hi env q, q_bind_ret, q_kFor]
    exact forC_ref hg hb xs st _ (w.kn q.frz)) hk
theorem forc_m {Gs : σ → Gm} {Gb : α → σ → Gm} {tx : M S (List α)} {f : α → σ → M S (Ctl ρ σ)} {k : σ → M S γ} {l : ρ → γ} (st : σ) (r : RtK er R l) (hi : TI G mi tx e) (w : Wk (frzG al G) (Gs st)) (hg : ∀ a st, TG tg (e a) (Gs st) (Gb a st)) (hb : ∀ a st, TS (Gb a st) body (f a st) (RC er Gs)) (hk : ∀ st, TS (Gs st) rest (k st) R) : TS G (sSeq (sFor al mi tg body) rest) (M.bind (M.bind tx fun xs => forC f xs st) (lpK (fun v => M.ret (l v)) k)) R :=
  ts_cutJ r (fun env q => by
    rw [q_sFor]
    refine Ref.bind (hi env q) fun ds xs z => ?_
    rw [q_kFor, show ds = xs.map e from z]
    exact forC_ref hg hb xs st _ (w.kn q.frz)) hk
/-! while -/
theorem whileS_ref {Gs : σ → Gm} {mt : En S Bool} {tt : σ → M S Bool} {f : σ → M S σ} (ht : ∀ st, TTb (Gs st) mt (tt st)) (hb : ∀ st, TS (Gs st) body (f st) (RL Gs)) : ∀ (n : Nat) (st : σ) (env : List Sl), Kn (Gs st) env → Ref (RN Gs) (whileD mt body n env) (whileS tt f n st)
  | 0, st, env, k => Ref.fail
  | n + 1, st, env, k => by
    unfold whileD whileS
    refine Ref.bind (ht st env k) fun b a z => ?_
    subst z
    refine Ref.ite (fun _ => ?_) fun _ => Ref.ret ⟨env, rfl, k⟩
    refine Ref.bind (hb st env k) fun fl st' z => ?_
    obtain ⟨e2, q2, k2⟩ := z
    rcases q2 with rfl | rfl
    · exact whileS_ref ht hb n st' e2 k2
    · exact whileS_ref ht hb n st' e2 k2
theorem whileC_ref {Gs : σ → Gm} {mt : En S Bool} {tt : σ → M S Bool} {f : σ → M S (Ctl ρ σ)} (ht : ∀ st, TTb (Gs st) mt (tt st)) (hb : ∀ st, TS (Gs st) body (f st) (RC er Gs)) : ∀ (n : Nat) (st : σ) (env : List Sl), Kn (Gs st) env → Ref (RJ er Gs) (whileD mt body n env) (whileC tt f n st)
  | 0, st, env, k => Ref.fail
  | n + 1, st, env, k => by
    unfold whileD whileC
    refine Ref.bind (ht st env k) fun b a z => ?_
    subst z
    refine Ref.ite (fun _ => ?_) fun _ => Ref.ret (R := RJ er Gs) (b := Fl.nx env) (a := Sum.inr st) ⟨env, rfl, k⟩
    refine Ref.bind (hb st env k) fun fl c z => ?_
    cases c with
    | nx st' =>
      obtain ⟨e2, q2, k2⟩ := z
      rcases q2 with rfl | rfl
      · exact whileC_ref ht hb n st' e2 k2
      · exact whileC_ref ht hb n st' e2 k2
    | bk st' =>
      obtain ⟨e2, rfl, k2⟩ := z
      exact Ref.ret (R := RJ er Gs) (b := Fl.nx e2) (a := Sum.inr st') ⟨e2, rfl, k2⟩
    | rt v =>
      have z : fl = .rt (er v) := z
      subst z
      exact Ref.ret (R := RJ er Gs) (b := Fl.rt (er v)) (a := Sum.inl v) rfl
theorem while_s {Gs : σ → Gm} {tt : σ → M S Bool} {f : σ → M S σ} {n : Nat} {k : σ → M S γ} (st : σ) (w : Wk G (Gs st)) (ht : ∀ st, TTb (Gs st) mt (tt st)) (hb : ∀ st, TS (Gs st) body (f st) (RL Gs)) (hk : ∀ st, TS (Gs st) rest (k st) R) : TS G (sSeq (whileD mt body n) rest) (M.bind (whileS tt f n st) k) R :=
  ts_cut (fun env q => whileS_ref ht hb n st env (w.kn q)) hk
theorem while_c {Gs : σ → Gm} {tt : σ → M S Bool} {f : σ → M S (Ctl ρ σ)} {n : Nat} {k : σ → M S γ} {l : ρ → γ} (st : σ) (r : RtK er R l) (w : Wk G (Gs st)) (ht : ∀ st, TTb (Gs st) mt (tt st)) (hb : ∀ st, TS (Gs st) body (f st) (RC er Gs)) (hk : ∀ st, TS (Gs st) rest (k st) R) : TS G (sSeq (whileD mt body n) rest) (M.bind (whileC tt f n st) (lpK (fun v => M.ret (l v)) k)) R :=
  ts_cutJ r (fun env q => whileC_ref ht hb n st env (w.kn q)) hk
/-! items -/
theorem pi_T {l : List α} (h : PV G m l (eT e)) : PI G (iSeq m) l e := fun env k => by rw [q_iSeq, h env k]; rfl
theorem pi_L {l : List α} (h : PV G m l (eL e)) : PI G (iSeq m) l e := fun env k => by rw [q_iSeq, h env k]; rfl
theorem pi_S {s : Str} (h : PV G m s .str) : PI G (iSeq m) (chrL s) .str := fun env k => by
  rw [q_iSeq, h env k]
  show M.ret (charsD s) = _
  unfold charsD chrL
  rw [List.map_map]
  rfl
theorem ti_T {t : M S (List α)} (h : TE G m t (eT e)) : TI G (iSeq m) t e := fun env k => by
  rw [q_iSeq]
  have := Ref.bind (g := M.ret) (R' := fun ds xs => ds = List.map e xs) (f := kIts) (h env k) fun d l q => by rw [show d = eT e l from q]; exact Ref.ret rfl
  rwa [M.bind_ret] at this
theorem ti_L {t : M S (List α)} (h : TE G m t (eL e)) : TI G (iSeq m) t e := fun env k => by
  rw [q_iSeq]
  have := Ref.bind (g := M.ret) (R' := fun ds xs => ds = List.map e xs) (f := kIts) (h env k) fun d l q => by rw [show d = eL e l from q]; exact Ref.ret rfl
  rwa [M.bind_ret] at this
theorem ti_D {d : D} (h : PV G m d id) : TI G (iSeq m) (M.ofO (dItems d)) id := fun env k => by
  rw [q_iSeq, h env k]
  show Ref _ (M.ofO (dItems d)) _
  cases dItems d with
  | none => exact Ref.fail
  | some l => exact Ref.ret (by rw [List.map_id])
theorem rngD_map (lo : Int) (n : Nat) : rngD lo n = (rngL lo n).map .int := by unfold rngD rngL; rw [List.map_map]; rfl
theorem enumD_map (l : List α) : enumD (l.map e) = (enumL l).map (eP .int e) := by
  unfold enumD enumL
  apply List.ext_getElem?
  intro i
  simp only [List.getElem?_mapIdx, List.getElem?_map, Option.map_map]
  rfl
theorem zipD_map {f : β → D} (l : List α) (r : List β) : zipD (l.map e) (r.map f) = (l.zip r).map (eP e f) := by
  unfold zipD
  rw [List.zipWith_map, List.zip, List.map_zipWith]
  rfl
theorem pi_rngK {j : Int} {n : Nat} (h : PVs G mr [.int j]) (q : dRng1 [.int j] = some (rngD 0 n) := by rfl) : PI G (iOf dRng1 mr) (rngL 0 n) .int := fun env k => by rw [q_iOf, h env k, q_bind_ret, q_kOf, q, q_ofO_some, rngD_map]
theorem ti_rng1 {t : M S Int} (h : TA G mr t (fun j => [.int j])) : TI G (iOf dRng1 mr) (M.bind t rng1) .int := fun env k => by
  rw [q_iOf]
  refine Ref.bind (h env k) fun ds j z => ?_
  rw [q_kOf, show ds = [.int j] from z]
  unfold rng1 dRng1
  dsimp only
  by_cases c : j.natAbs ≤ 16777216
  · rw [if_pos c, if_pos c, rngD_map]; exact Ref.ret rfl
  · rw [if_neg c, if_neg c]; exact Ref.fail
theorem ti_rng1p {j : Int} (h : PVs G mr [.int j]) : TI G (iOf dRng1 mr) (rng1 j) .int := ti_rng1 (t := M.ret j) fun env k => by rw [h env k]; exact Ref.ret rfl
theorem ti_rng2 {t : M S (Int × Int)} (h : TA G mr t (fun j => [.int j.1, .int j.2])) : TI G (iOf dRng2 mr) (M.bind t fun j => rng2 j.1 j.2) .int := fun env k => by
  rw [q_iOf]
  refine Ref.bind (h env k) fun ds j z => ?_
  rw [q_kOf, show ds = [.int j.1, .int j.2] from z]
  unfold rng2 dRng2
  dsimp only
  by_cases c : j.1.natAbs ≤ 16777216 ∧ j.2.natAbs ≤ 16777216
  · rw [if_pos c, if_pos c, rngD_map]; exact Ref.ret rfl
  · rw [if_neg c, if_neg c]; exact Ref.fail
theorem ti_rng2p {i j : Int} (h : PVs G mr [.int i, .int j]) : TI G (iOf dRng2 mr) (rng2 i j) .int := ti_rng2 (t := M.ret (i, j)) fun env k => by rw [h env k]; exact Ref.ret rfl
/-- a list, a tuple, a text -/
structure Sq (d : D) (l : List α) (e : α → D) : Prop where
  ok : dItems d = some (l.map e)
theorem sq_T (l : List α) : Sq (eT e l) l e := ⟨rfl⟩
theorem sq_L (l : List α) : Sq (eL e l) l e := ⟨rfl⟩
theorem sq_S (s : Str) : Sq (.str s) (chrL s) .str := ⟨by show some (charsD s) = _; unfold charsD chrL; rw [List.map_map]; rfl⟩
theorem pi_enum {d : D} {l : List α} (s : Sq d l e) (h : PVs G mr [d]) : PI G (iEnum mr) (enumL l) (eP .int e) := fun env k => by rw [q_iEnum, h env k, q_bind_ret, q_kEnum, s.ok]; exact congrArg M.ret (enumD_map l)
theorem pi_zip {d d' : D} {l : List α} {r : List β} (s : Sq d l e) (s' : Sq d' r ea) (h : PVs G mr [d, d']) : PI G (iZip mr) (l.zip r) (eP e ea) := fun env k => by rw [q_iZip, h env k, q_bind_ret, q_kZip, s.ok, s'.ok]; exact congrArg M.ret (zipD_map l r)
theorem ti_enum {t : M S β} {er' : β → List D} {g : β → List α} (h : TA G mr t er') (q : ∀ b, ∃ d, er' b = [d] ∧ Sq d (g b) e) : TI G (iEnum mr) (M.bind t fun b => M.ret (enumL (g b))) (eP .int e) := fun env k => by
  rw [q_iEnum]
  refine Ref.bind (h env k) fun ds b z => ?_
  obtain ⟨d, hd, s⟩ := q b
  rw [show ds = er' b from z, hd, q_kEnum, s.ok]
  exact Ref.ret (enumD_map _)
theorem ti_enumD {d : D} (h : PVs G mr [d]) : TI G (iEnum mr) (M.bind (M.ofO (dItems d)) fun l => M.ret (enumL l)) (eP .int id) := fun env k => by
  rw [q_iEnum, h env k, q_bind_ret, q_kEnum]
  cases dItems d with
  | none => exact Ref.fail
  | some l =>
    have := enumD_map (e := id) l
    rw [List.map_id] at this
    exact Ref.ret this
theorem ti_zipD {d d' : D} {l : List α} (s : Sq d l e) (h : PVs G mr [d, d']) : TI G (iZip mr) (M.bind (M.ofO (dItems d')) fun r => M.ret (l.zip r)) (eP e id) := fun env k => by
  rw [q_iZip, h env k, q_bind_ret, q_kZip, s.ok]
  cases dItems d' with
  | none => exact Ref.fail
  | some r =>
    have := zipD_map (e := e) (f := id) l r
    rw [List.map_id] at this
    exact Ref.ret this
theorem ti_zip {t : M S β} {er' : β → List D} {g : β → List α} {g2 : β → List δ} {e2 : δ → D} (h : TA G mr t er') (q : ∀ b, ∃ d d', er' b = [d, d'] ∧ Sq d (g b) e ∧ Sq d' (g2 b) e2) : TI G (iZip mr) (M.bind t fun b => M.ret ((g b).zip (g2 b))) (eP e e2) := fun env k => by
  rw [q_iZip]
  refine Ref.bind (h env k) fun ds b z => ?_
  obtain ⟨d, d', hd, s, s'⟩ := q b
  rw [show ds = er' b from z, hd, q_kZip, s.ok, s'.ok]
  exact Ref.ret (zipD_map _ _)
/-! comprehensions -/
theorem comp_ref {Gb : α → Gm} {p : α → M S Bool} {g : α → M S β} {tst : En S Bool} (hg : ∀ a, TG tg (e a) G (Gb a)) (ht : ∀ a, TTb (Gb a) tst (p a)) (he : ∀ a, TE (Gb a) m (g a) ea) (env : List Sl) (k : Kn G env) : ∀ xs : List α, Ref (fun ds ys => ds = List.map ea ys) (compD tg tst m (xs.map e) env) (compT p g xs)
  | [] => Ref.ret rfl
  | a :: xs => by
    obtain ⟨e1, q1, k1⟩ := hg a env k
    rw [List.map_cons, compD, q1]
    unfold compT
    refine Ref.bind (Ref.noex (ht a e1 k1)) fun b c z => ?_
    subst z
    refine Ref.ite (fun _ => ?_) fun _ => comp_ref hg ht he env k xs
    refine Ref.bind (Ref.noex (he a e1 k1)) fun d y z => ?_
    refine Ref.bind (comp_ref hg ht he env k xs) fun ds r z' => ?_
    exact Ref.ret (by rw [show d = ea y from z, show ds = r.map ea from z']; rfl)
theorem te_lc {al vs : List Nat} {Gb : α → Gm} {xs : List α} {p : α → M S Bool} {g : α → M S β} {tst : En S Bool} (hi : PI G mi xs e) (hg : ∀ a, TG tg (e a) (wipG (rdoG al 0 G) vs) (Gb a)) (ht : ∀ a, TTb (Gb a) tst (p a)) (he : ∀ a, TE (Gb a) m (g a) ea) : TE G (eLc al vs mi tg tst m) (lcM p g xs) (eL ea) := fun env k => by
  rw [q_eLc, hi env k, q_bind_ret]
  unfold lcM
  by_cases c : xs.length ≤ 16777216
  · rw [if_pos c, q_kLc1 (by rw [List.length_map]; exact c)]
    have := Ref.bind (g := M.ret) (R' := RD (eL ea)) (f := kLc2) (comp_ref hg ht he _ (Kn.wipe k.rdo vs) xs) fun ds r z => by rw [show ds = r.map ea from z]; exact Ref.ret rfl
    rwa [M.bind_ret] at this
  · rw [if_neg c]; exact Ref.fail
theorem te_lcm {al vs : List Nat} {Gb : α → Gm} {tx : M S (List α)} {p : α → M S Bool} {g : α → M S β} {tst : En S Bool} (hi : TI G mi tx e) (hg : ∀ a, TG tg (e a) (wipG (rdoG al 0 G) vs) (Gb a)) (ht : ∀ a, TTb (Gb a) tst (p a)) (he : ∀ a, TE (Gb a) m (g a) ea) : TE G (eLc al vs mi tg tst m) (M.bind tx (lcM p g)) (eL ea) := fun env k => by
  rw [q_eLc]
  refine Ref.bind (hi env k) fun ds xs z => ?_
  rw [show ds = xs.map e from z]
  unfold lcM
  by_cases c : xs.length ≤ 16777216
  · rw [if_pos c, q_kLc1 (by rw [List.length_map]; exact c)]
    have := Ref.bind (g := M.ret) (R' := RD (eL ea)) (f := kLc2) (comp_ref hg ht he _ (Kn.wipe k.rdo vs) xs) fun ds r z => by rw [show ds = r.map ea from z]; exact Ref.ret rfl
    rwa [M.bind_ret] at this
  · rw [if_neg c]; exact Ref.fail
theorem pt_yes : PTb (S := S) G tYesD true := fun _ _ => rfl
/-! defs -/
theorem kn_fz : ∀ (ds : List D) (n : Nat), Kn (ds.map (fun d => some (.fz d)) ++ List.replicate n none) (ds.map .fz ++ List.replicate n .no)
  | [], 0 => trivial
  | [], n + 1 => ⟨trivial, kn_fz [] n⟩
  | d :: ds, n => ⟨rfl, kn_fz ds n⟩
theorem rf_run {k : Nat} {ds : List D} {mm : En S Fl} {t : M S ρ} (h : TS G mm t (RT er)) (hG : G = ds.map (fun d => some (.fz d)) ++ List.replicate (k - ds.length) none := by rfl) : Ref (RD er) (runD k mm ds) t := by
  rw [q_runD]
  subst hG
  have := Ref.bind (g := M.ret) (R' := RD er) (f := kRun) (h _ (kn_fz ds (k - ds.length))) fun fl v z => by
    rcases z with rfl | ⟨env, rfl, z⟩
    · exact Ref.ret rfl
    · exact Ref.ret z.symm
  rwa [M.bind_ret] at this
end
end DD
set_option synthInstance.maxSize 2000
set_option synthInstance.maxHeartbeats 400000
namespace DD
open PySem PySem.Spec PyProof.Rows L2
/-! ### operations with ends -/

def eP7 {α β γ δ ε ζ η : Type} (f0 : α → D) (f1 : β → D) (f2 : γ → D) (f3 : δ → D) (f4 : ε → D) (f5 : ζ → D) (f6 : η → D) (p : α × β × γ × δ × ε × ζ × η) : D := .tup [f0 p.1, f1 p.2.1, f2 p.2.2.1, f3 p.2.2.2.1, f4 p.2.2.2.2.1, f5 p.2.2.2.2.2.1, f6 p.2.2.2.2.2.2]
theorem hd_P7 {α β γ δ ε ζ η : Type} {f0 : α → D} {f1 : β → D} {f2 : γ → D} {f3 : δ → D} {f4 : ε → D} {f5 : ζ → D} {f6 : η → D} (h0 : Hd f0) (h1 : Hd f1) (h2 : Hd f2) (h3 : Hd f3) (h4 : Hd f4) (h5 : Hd f5) (h6 : Hd f6) : Hd (eP7 f0 f1 f2 f3 f4 f5 f6) := ⟨fun p => by unfold eP7; simp only [D.hard, hards, h0.ok, h1.ok, h2.ok, h3.ok, h4.ok, h5.ok, h6.ok, Bool.and_self]⟩
def eP8 {α β γ δ ε ζ η θ : Type} (f0 : α → D) (f1 : β → D) (f2 : γ → D) (f3 : δ → D) (f4 : ε → D) (f5 : ζ → D) (f6 : η → D) (f7 : θ → D) (p : α × β × γ × δ × ε × ζ × η × θ) : D := .tup [f0 p.1, f1 p.2.1, f2 p.2.2.1, f3 p.2.2.2.1, f4 p.2.2.2.2.1, f5 p.2.2.2.2.2.1, f6 p.2.2.2.2.2.2.1, f7 p.2.2.2.2.2.2.2]
theorem hd_P8 {α β γ δ ε ζ η θ : Type} {f0 : α → D} {f1 : β → D} {f2 : γ → D} {f3 : δ → D} {f4 : ε → D} {f5 : ζ → D} {f6 : η → D} {f7 : θ → D} (h0 : Hd f0) (h1 : Hd f1) (h2 : Hd f2) (h3 : Hd f3) (h4 : Hd f4) (h5 : Hd f5) (h6 : Hd f6) (h7 : Hd f7) : Hd (eP8 f0 f1 f2 f3 f4 f5 f6 f7) := ⟨fun p => by unfold eP8; simp only [D.hard, hards, h0.ok, h1.ok, h2.ok, h3.ok, h4.ok, h5.ok, h6.ok, h7.ok, Bool.and_self]⟩
theorem ix_P2_0 {α β : Type} {f0 : α → D} {f1 : β → D} (p : α × β) : dIx (eP f0 f1 p) (.int 0) = some (f0 p.1) := by
  unfold eP dIx
  exact atI_nat (xs := [f0 p.1, f1 p.2]) (j := 0) (v := f0 p.1) rfl
theorem ix_P2_1 {α β : Type} {f0 : α → D} {f1 : β → D} (p : α × β) : dIx (eP f0 f1 p) (.int 1) = some (f1 p.2) := by
  unfold eP dIx
  exact atI_nat (xs := [f0 p.1, f1 p.2]) (j := 1) (v := f1 p.2) rfl
theorem ix_P3_0 {α β γ : Type} {f0 : α → D} {f1 : β → D} {f2 : γ → D} (p : α × β × γ) : dIx (eP3 f0 f1 f2 p) (.int 0) = some (f0 p.1) := by
  unfold eP3 dIx
  exact atI_nat (xs := [f0 p.1, f1 p.2.1, f2 p.2.2]) (j := 0) (v := f0 p.1) rfl
theorem ix_P3_1 {α β γ : Type} {f0 : α → D} {f1 : β → D} {f2 : γ → D} (p : α × β × γ) : dIx (eP3 f0 f1 f2 p) (.int 1) = some (f1 p.2.1) := by
  unfold eP3 dIx
  exact atI_nat (xs := [f0 p.1, f1 p.2.1, f2 p.2.2]) (j := 1) (v := f1 p.2.1) rfl
theorem ix_P3_2 {α β γ : Type} {f0 : α → D} {f1 : β → D} {f2 : γ → D} (p : α × β × γ) : dIx (eP3 f0 f1 f2 p) (.int 2) = some (f2 p.2.2) := by
  unfold eP3 dIx
  exact atI_nat (xs := [f0 p.1, f1 p.2.1, f2 p.2.2]) (j := 2) (v := f2 p.2.2) rfl
theorem ix_P4_0 {α β γ δ : Type} {f0 : α → D} {f1 : β → D} {f2 : γ → D} {f3 : δ → D} (p : α × β × γ × δ) : dIx (eP4 f0 f1 f2 f3 p) (.int 0) = some (f0 p.1) := by
  unfold eP4 dIx
  exact atI_nat (xs := [f0 p.1, f1 p.2.1, f2 p.2.2.1, f3 p.2.2.2]) (j := 0) (v := f0 p.1) rfl
theorem ix_P4_1 {α β γ δ : Type} {f0 : α → D} {f1 : β → D} {f2 : γ → D} {f3 : δ → D} (p : α × β × γ × δ) : dIx (eP4 f0 f1 f2 f3 p) (.int 1) = some (f1 p.2.1) := by
  unfold eP4 dIx
  exact atI_nat (xs := [f0 p.1, f1 p.2.1, f2 p.2.2.1, f3 p.2.2.2]) (j := 1) (v := f1 p.2.1) rfl
theorem ix_P4_2 {α β γ δ : Type} {f0 : α → D} {f1 : β → D} {f2 : γ → D} {f3 : δ → D} (p : α × β × γ × δ) : dIx (eP4 f0 f1 f2 f3 p) (.int 2) = some (f2 p.2.2.1) := by
  unfold eP4 dIx
  exact atI_nat (xs := [f0 p.1, f1 p.2.1, f2 p.2.2.1, f3 p.2.2.2]) (j := 2) (v := f2 p.2.2.1) rfl
theorem ix_P4_3 {α β γ δ : Type} {f0 : α → D} {f1 : β → D} {f2 : γ → D} {f3 : δ → D} (p : α × β × γ × δ) : dIx (eP4 f0 f1 f2 f3 p) (.int 3) = some (f3 p.2.2.2) := by
  unfold eP4 dIx
  exact atI_nat (xs := [f0 p.1, f1 p.2.1, f2 p.2.2.1, f3 p.2.2.2]) (j := 3) (v := f3 p.2.2.2) rfl
theorem ix_P5_0 {α β γ δ ε : Type} {f0 : α → D} {f1 : β → D} {f2 : γ → D} {f3 : δ → D} {f4 : ε → D} (p : α × β × γ × δ × ε) : dIx (eP5 f0 f1 f2 f3 f4 p) (.int 0) = some (f0 p.1) := by
  unfold eP5 dIx
  exact atI_nat (xs := [f0 p.1, f1 p.2.1, f2 p.2.2.1, f3 p.2.2.2.1, f4 p.2.2.2.2]) (j := 0) (v := f0 p.1) rfl
theorem ix_P5_1 {α β γ δ ε : Type} {f0 : α → D} {f1 : β → D} {f2 : γ → D} {f3 : δ → D} {f4 : ε → D} (p : α × β × γ × δ × ε) : dIx (eP5 f0 f1 f2 f3 f4 p) (.int 1) = some (f1 p.2.1) := by
  unfold eP5 dIx
  exact atI_nat (xs := [f0 p.1, f1 p.2.1, f2 p.2.2.1, f3 p.2.2.2.1, f4 p.2.2.2.2]) (j := 1) (v := f1 p.2.1) rfl
theorem ix_P5_2 {α β γ δ ε : Type} {f0 : α → D} {f1 : β → D} {f2 : γ → D} {f3 : δ → D} {f4 : ε → D} (p : α × β × γ × δ × ε) : dIx (eP5 f0 f1 f2 f3 f4 p) (.int 2) = some (f2 p.2.2.1) := by
  unfold eP5 dIx
  exact atI_nat (xs := [f0 p.1, f1 p.2.1, f2 p.2.2.1, f3 p.2.2.2.1, f4 p.2.2.2.2]) (j := 2) (v := f2 p.2.2.1) rfl
theorem ix_P5_3 {α β γ δ ε : Type} {f0 : α → D} {f1 : β → D} {f2 : γ → D} {f3 : δ → D} {f4 : ε → D} (p : α × β × γ × δ × ε) : dIx (eP5 f0 f1 f2 f3 f4 p) (.int 3) = some (f3 p.2.2.2.1) := by
  unfold eP5 dIx
  exact atI_nat (xs := [f0 p.1, f1 p.2.1, f2 p.2.2.1, f3 p.2.2.2.1, f4 p.2.2.2.2]) (j := 3) (v := f3 p.2.2.2.1) rfl
theorem ix_P5_4 {α β γ δ ε : Type} {f0 : α → D} {f1 : β → D} {f2 : γ → D} {f3 : δ → D} {f4 : ε → D} (p : α × β × γ × δ × ε) : dIx (eP5 f0 f1 f2 f3 f4 p) (.int 4) = some (f4 p.2.2.2.2) := by
  unfold eP5 dIx
  exact atI_nat (xs := [f0 p.1, f1 p.2.1, f2 p.2.2.1, f3 p.2.2.2.1, f4 p.2.2.2.2]) (j := 4) (v := f4 p.2.2.2.2) rfl
theorem ix_P6_0 {α β γ δ ε ζ : Type} {f0 : α → D} {f1 : β → D} {f2 : γ → D} {f3 : δ → D} {f4 : ε → D} {f5 : ζ → D} (p : α × β × γ × δ × ε × ζ) : dIx (eP6 f0 f1 f2 f3 f4 f5 p) (.int 0) = some (f0 p.1) := by
  unfold eP6 dIx
  exact atI_nat (xs := [f0 p.1, f1 p.2.1, f2 p.2.2.1, f3 p.2.2.2.1, f4 p.2.2.2.2.1, f5 p.2.2.2.2.2]) (j := 0) (v := f0 p.1) rfl
theorem ix_P6_1 {α β γ δ ε ζ : Type} {f0 : α → D} {f1 : β → D} {f2 : γ → D} {f3 : δ → D} {f4 : ε → D} {f5 : ζ → D} (p : α × β × γ × δ × ε × ζ) : dIx (eP6 f0 f1 f2 f3 f4 f5 p) (.int 1) = some (f1 p.2.1) := by
  unfold eP6 dIx
  exact atI_nat (xs := [f0 p.1, f1 p.2.1, f2 p.2.2.1, f3 p.2.2.2.1, f4 p.2.2.2.2.1, f5 p.2.2.2.2.2]) (j := 1) (v := f1 p.2.1) rfl
theorem ix_P6_2 {α β γ δ ε ζ : Type} {f0 : α → D} {f1 : β → D} {f2 : γ → D} {f3 : δ → D} {f4 : ε → D} {f5 : ζ → D} (p : α × β × γ × δ × ε × ζ) : dIx (eP6 f0 f1 f2 f3 f4 f5 p) (.int 2) = some (f2 p.2.2.1) := by
  unfold eP6 dIx
  exact atI_nat (xs := [f0 p.1, f1 p.2.1, f2 p.2.2.1, f3 p.2.2.2.1, f4 p.2.2.2.2.1, f5 p.2.2.2.2.2]) (j := 2) (v := f2 p.2.2.1) rfl
theorem ix_P6_3 {α β γ δ ε ζ : Type} {f0 : α → D} {f1 : β → D} {f2 : γ → D} {f3 : δ → D} {f4 : ε → D} {f5 : ζ → D} (p : α × β × γ × δ × ε × ζ) : dIx (eP6 f0 f1 f2 f3 f4 f5 p) (.int 3) = some (f3 p.2.2.2.1) := by
  unfold eP6 dIx
  exact atI_nat (xs := [f0 p.1, f1 p.2.1, f2 p.2.2.1, f3 p.2.2.2.1, f4 p.2.2.2.2.1, f5 p.2.2.2.2.2]) (j := 3) (v := f3 p.2.2.2.1) rfl
theorem ix_P6_4 {α β γ δ ε ζ : Type} {f0 : α → D} {f1 : β → D} {f2 : γ → D} {f3 : δ → D} {f4 : ε → D} {f5 : ζ → D} (p : α × β × γ × δ × ε × ζ) : dIx (eP6 f0 f1 f2 f3 f4 f5 p) (.int 4) = some (f4 p.2.2.2.2.1) := by
  unfold eP6 dIx
  exact atI_nat (xs := [f0 p.1, f1 p.2.1, f2 p.2.2.1, f3 p.2.2.2.1, f4 p.2.2.2.2.1, f5 p.2.2.2.2.2]) (j := 4) (v := f4 p.2.2.2.2.1) rfl
theorem ix_P6_5 {α β γ δ ε ζ : Type} {f0 : α → D} {f1 : β → D} {f2 : γ → D} {f3 : δ → D} {f4 : ε → D} {f5 : ζ → D} (p : α × β × γ × δ × ε × ζ) : dIx (eP6 f0 f1 f2 f3 f4 f5 p) (.int 5) = some (f5 p.2.2.2.2.2) := by
  unfold eP6 dIx
  exact atI_nat (xs := [f0 p.1, f1 p.2.1, f2 p.2.2.1, f3 p.2.2.2.1, f4 p.2.2.2.2.1, f5 p.2.2.2.2.2]) (j := 5) (v := f5 p.2.2.2.2.2) rfl
theorem ix_P7_0 {α β γ δ ε ζ η : Type} {f0 : α → D} {f1 : β → D} {f2 : γ → D} {f3 : δ → D} {f4 : ε → D} {f5 : ζ → D} {f6 : η → D} (p : α × β × γ × δ × ε × ζ × η) : dIx (eP7 f0 f1 f2 f3 f4 f5 f6 p) (.int 0) = some (f0 p.1) := by
  unfold eP7 dIx
  exact atI_nat (xs := [f0 p.1, f1 p.2.1, f2 p.2.2.1, f3 p.2.2.2.1, f4 p.2.2.2.2.1, f5 p.2.2.2.2.2.1, f6 p.2.2.2.2.2.2]) (j := 0) (v := f0 p.1) rfl
theorem ix_P7_1 {α β γ δ ε ζ η : Type} {f0 : α → D} {f1 : β → D} {f2 : γ → D} {f3 : δ → D} {f4 : ε → D} {f5 : ζ → D} {f6 : η → D} (p : α × β × γ × δ × ε × ζ × η) : dIx (eP7 f0 f1 f2 f3 f4 f5 f6 p) (.int 1) = some (f1 p.2.1) := by
  unfold eP7 dIx
  exact atI_nat (xs := [f0 p.1, f1 p.2.1, f2 p.2.2.1, f3 p.2.2.2.1, f4 p.2.2.2.2.1, f5 p.2.2.2.2.2.1, f6 p.2.2.2.2.2.2]) (j := 1) (v := f1 p.2.1) rfl
theorem ix_P7_2 {α β γ δ ε ζ η : Type} {f0 : α → D} {f1 : β → D} {f2 : γ → D} {f3 : δ → D} {f4 : ε → D} {f5 : ζ → D} {f6 : η → D} (p : α × β × γ × δ × ε × ζ × η) : dIx (eP7 f0 f1 f2 f3 f4 f5 f6 p) (.int 2) = some (f2 p.2.2.1) := by
  unfold eP7 dIx
  exact atI_nat (xs := [f0 p.1, f1 p.2.1, f2 p.2.2.1, f3 p.2.2.2.1, f4 p.2.2.2.2.1, f5 p.2.2.2.2.2.1, f6 p.2.2.2.2.2.2]) (j := 2) (v := f2 p.2.2.1) rfl
theorem ix_P7_3 {α β γ δ ε ζ η : Type} {f0 : α → D} {f1 : β → D} {f2 : γ → D} {f3 : δ → D} {f4 : ε → D} {f5 : ζ → D} {f6 : η → D} (p : α × β × γ × δ × ε × ζ × η) : dIx (eP7 f0 f1 f2 f3 f4 f5 f6 p) (.int 3) = some (f3 p.2.2.2.1) := by
  unfold eP7 dIx
  exact atI_nat (xs := [f0 p.1, f1 p.2.1, f2 p.2.2.1, f3 p.2.2.2.1, f4 p.2.2.2.2.1, f5 p.2.2.2.2.2.1, f6 p.2.2.2.2.2.2]) (j := 3) (v := f3 p.2.2.2.1) rfl
theorem ix_P7_4 {α β γ δ ε ζ η : Type} {f0 : α → D} {f1 : β → D} {f2 : γ → D} {f3 : δ → D} {f4 : ε → D} {f5 : ζ → D} {f6 : η → D} (p : α × β × γ × δ × ε × ζ × η) : dIx (eP7 f0 f1 f2 f3 f4 f5 f6 p) (.int 4) = some (f4 p.2.2.2.2.1) := by
  unfold eP7 dIx
  exact atI_nat (xs := [f0 p.1, f1 p.2.1, f2 p.2.2.1, f3 p.2.2.2.1, f4 p.2.2.2.2.1, f5 p.2.2.2.2.2.1, f6 p.2.2.2.2.2.2]) (j := 4) (v := f4 p.2.2.2.2.1) rfl
theorem ix_P7_5 {α β γ δ ε ζ η : Type} {f0 : α → D} {f1 : β → D} {f2 : γ → D} {f3 : δ → D} {f4 : ε → D} {f5 : ζ → D} {f6 : η → D} (p : α × β × γ × δ × ε × ζ × η) : dIx (eP7 f0 f1 f2 f3 f4 f5 f6 p) (.int 5) = some (f5 p.2.2.2.2.2.1) := by
  unfold eP7 dIx
  exact atI_nat (xs := [f0 p.1, f1 p.2.1, f2 p.2.2.1, f3 p.2.2.2.1, f4 p.2.2.2.2.1, f5 p.2.2.2.2.2.1, f6 p.2.2.2.2.2.2]) (j := 5) (v := f5 p.2.2.2.2.2.1) rfl
theorem ix_P7_6 {α β γ δ ε ζ η : Type} {f0 : α → D} {f1 : β → D} {f2 : γ → D} {f3 : δ → D} {f4 : ε → D} {f5 : ζ → D} {f6 : η → D} (p : α × β × γ × δ × ε × ζ × η) : dIx (eP7 f0 f1 f2 f3 f4 f5 f6 p) (.int 6) = some (f6 p.2.2.2.2.2.2) := by
  unfold eP7 dIx
  exact atI_nat (xs := [f0 p.1, f1 p.2.1, f2 p.2.2.1, f3 p.2.2.2.1, f4 p.2.2.2.2.1, f5 p.2.2.2.2.2.1, f6 p.2.2.2.2.2.2]) (j := 6) (v := f6 p.2.2.2.2.2.2) rfl
theorem ix_P8_0 {α β γ δ ε ζ η θ : Type} {f0 : α → D} {f1 : β → D} {f2 : γ → D} {f3 : δ → D} {f4 : ε → D} {f5 : ζ → D} {f6 : η → D} {f7 : θ → D} (p : α × β × γ × δ × ε × ζ × η × θ) : dIx (eP8 f0 f1 f2 f3 f4 f5 f6 f7 p) (.int 0) = some (f0 p.1) := by
  unfold eP8 dIx
  exact atI_nat (xs := [f0 p.1, f1 p.2.1, f2 p.2.2.1, f3 p.2.2.2.1, f4 p.2.2.2.2.1, f5 p.2.2.2.2.2.1, f6 p.2.2.2.2.2.2.1, f7 p.2.2.2.2.2.2.2]) (j := 0) (v := f0 p.1) rfl
theorem ix_P8_1 {α β γ δ ε ζ η θ : Type} {f0 : α → D} {f1 : β → D} {f2 : γ → D} {f3 : δ → D} {f4 : ε → D} {f5 : ζ → D} {f6 : η → D} {f7 : θ → D} (p : α × β × γ × δ × ε × ζ × η × θ) : dIx (eP8 f0 f1 f2 f3 f4 f5 f6 f7 p) (.int 1) = some (f1 p.2.1) := by
  unfold eP8 dIx
  exact atI_nat (xs := [f0 p.1, f1 p.2.1, f2 p.2.2.1, f3 p.2.2.2.1, f4 p.2.2.2.2.1, f5 p.2.2.2.2.2.1, f6 p.2.2.2.2.2.2.1, f7 p.2.2.2.2.2.2.2]) (j := 1) (v := f1 p.2.1) rfl
theorem ix_P8_2 {α β γ δ ε ζ η θ : Type} {f0 : α → D} {f1 : β → D} {f2 : γ → D} {f3 : δ → D} {f4 : ε → D} {f5 : ζ → D} {f6 : η → D} {f7 : θ → D} (p : α × β × γ × δ × ε × ζ × η × θ) : dIx (eP8 f0 f1 f2 f3 f4 f5 f6 f7 p) (.int 2) = some (f2 p.2.2.1) := by
  unfold eP8 dIx
  exact atI_nat (xs := [f0 p.1, f1 p.2.1, f2 p.2.2.1, f3 p.2.2.2.1, f4 p.2.2.2.2.1, f5 p.2.2.2.2.2.1, f6 p.2.2.2.2.2.2.1, f7 p.2.2.2.2.2.2.2]) (j := 2) (v := f2 p.2.2.1) rfl
theorem ix_P8_3 {α β γ δ ε ζ η θ : Type} {f0 : α → D} {f1 : β → D} {f2 : γ → D} {f3 : δ → D} {f4 : ε → D} {f5 : ζ → D} {f6 : η → D} {f7 : θ → D} (p : α × β × γ × δ × ε × ζ × η × θ) : dIx (eP8 f0 f1 f2 f3 f4 f5 f6 f7 p) (.int 3) = some (f3 p.2.2.2.1) := by
  unfold eP8 dIx
  exact atI_nat (xs := [f0 p.1, f1 p.2.1, f2 p.2.2.1, f3 p.2.2.2.1, f4 p.2.2.2.2.1, f5 p.2.2.2.2.2.1, f6 p.2.2.2.2.2.2.1, f7 p.2.2.2.2.2.2.2]) (j := 3) (v := f3 p.2.2.2.1) rfl
theorem ix_P8_4 {α β γ δ ε ζ η θ : Type} {f0 : α → D} {f1 : β → D} {f2 : γ → D} {f3 : δ → D} {f4 : ε → D} {f5 : ζ → D} {f6 : η → D} {f7 : θ → D} (p : α × β × γ × δ × ε × ζ × η × θ) : dIx (eP8 f0 f1 f2 f3 f4 f5 f6 f7 p) (.int 4) = some (f4 p.2.2.2.2.1) := by
  unfold eP8 dIx
  exact atI_nat (xs := [f0 p.1, f1 p.2.1, f2 p.2.2.1, f3 p.2.2.2.1, f4 p.2.2.2.2.1, f5 p.2.2.2.2.2.1, f6 p.2.2.2.2.2.2.1, f7 p.2.2.2.2.2.2.2]) (j := 4) (v := f4 p.2.2.2.2.1) rfl
theorem ix_P8_5 {α β γ δ ε ζ η θ : Type} {f0 : α → D} {f1 : β → D} {f2 : γ → D} {f3 : δ → D} {f4 : ε → D} {f5 : ζ → D} {f6 : η → D} {f7 : θ → D} (p : α × β × γ × δ × ε × ζ × η × θ) : dIx (eP8 f0 f1 f2 f3 f4 f5 f6 f7 p) (.int 5) = some (f5 p.2.2.2.2.2.1) := by
  unfold eP8 dIx
  exact atI_nat (xs := [f0 p.1, f1 p.2.1, f2 p.2.2.1, f3 p.2.2.2.1, f4 p.2.2.2.2.1, f5 p.2.2.2.2.2.1, f6 p.2.2.2.2.2.2.1, f7 p.2.2.2.2.2.2.2]) (j := 5) (v := f5 p.2.2.2.2.2.1) rfl
theorem ix_P8_6 {α β γ δ ε ζ η θ : Type} {f0 : α → D} {f1 : β → D} {f2 : γ → D} {f3 : δ → D} {f4 : ε → D} {f5 : ζ → D} {f6 : η → D} {f7 : θ → D} (p : α × β × γ × δ × ε × ζ × η × θ) : dIx (eP8 f0 f1 f2 f3 f4 f5 f6 f7 p) (.int 6) = some (f6 p.2.2.2.2.2.2.1) := by
  unfold eP8 dIx
  exact atI_nat (xs := [f0 p.1, f1 p.2.1, f2 p.2.2.1, f3 p.2.2.2.1, f4 p.2.2.2.2.1, f5 p.2.2.2.2.2.1, f6 p.2.2.2.2.2.2.1, f7 p.2.2.2.2.2.2.2]) (j := 6) (v := f6 p.2.2.2.2.2.2.1) rfl
theorem ix_P8_7 {α β γ δ ε ζ η θ : Type} {f0 : α → D} {f1 : β → D} {f2 : γ → D} {f3 : δ → D} {f4 : ε → D} {f5 : ζ → D} {f6 : η → D} {f7 : θ → D} (p : α × β × γ × δ × ε × ζ × η × θ) : dIx (eP8 f0 f1 f2 f3 f4 f5 f6 f7 p) (.int 7) = some (f7 p.2.2.2.2.2.2.2) := by
  unfold eP8 dIx
  exact atI_nat (xs := [f0 p.1, f1 p.2.1, f2 p.2.2.1, f3 p.2.2.2.1, f4 p.2.2.2.2.1, f5 p.2.2.2.2.2.1, f6 p.2.2.2.2.2.2.1, f7 p.2.2.2.2.2.2.2]) (j := 7) (v := f7 p.2.2.2.2.2.2.2) rfl
theorem cm_P6 {α β γ δ ε ζ : Type} [DecidableEq α] [DecidableEq β] [DecidableEq γ] [DecidableEq δ] [DecidableEq ε] [DecidableEq ζ] {f0 : α → D} {f1 : β → D} {f2 : γ → D} {f3 : δ → D} {f4 : ε → D} {f5 : ζ → D} {n0 n1 n2 n3 n4 n5 : Nat} (c0 : Cm f0 n0) (c1 : Cm f1 n1) (c2 : Cm f2 n2) (c3 : Cm f3 n3) (c4 : Cm f4 n4) (c5 : Cm f5 n5) : Cm (eP6 f0 f1 f2 f3 f4 f5) ((max n0 (max n1 (max n2 (max n3 (max n4 n5))))) + 1) where
  dp := fun a => dp_tup fun d hd => by
    simp only [List.mem_cons, List.not_mem_nil, or_false] at hd
    rcases hd with rfl | rfl | rfl | rfl | rfl | rfl
    · exact (c0.dp _).up (by omega)
    · exact (c1.dp _).up (by omega)
    · exact (c2.dp _).up (by omega)
    · exact (c3.dp _).up (by omega)
    · exact (c4.dp _).up (by omega)
    · exact (c5.dp _).up (by omega)
  eqv := fun a b => by
    unfold eP6
    simp only [D.eqv, eqvs, c0.eqv, c1.eqv, c2.eqv, c3.eqv, c4.eqv, c5.eqv, Bool.and_true]
    rw [Bool.eq_iff_iff]
    simp [Prod.ext_iff]
theorem cm_P7 {α β γ δ ε ζ η : Type} [DecidableEq α] [DecidableEq β] [DecidableEq γ] [DecidableEq δ] [DecidableEq ε] [DecidableEq ζ] [DecidableEq η] {f0 : α → D} {f1 : β → D} {f2 : γ → D} {f3 : δ → D} {f4 : ε → D} {f5 : ζ → D} {f6 : η → D} {n0 n1 n2 n3 n4 n5 n6 : Nat} (c0 : Cm f0 n0) (c1 : Cm f1 n1) (c2 : Cm f2 n2) (c3 : Cm f3 n3) (c4 : Cm f4 n4) (c5 : Cm f5 n5) (c6 : Cm f6 n6) : Cm (eP7 f0 f1 f2 f3 f4 f5 f6) ((max n0 (max n1 (max n2 (max n3 (max n4 (max n5 n6)))))) + 1) where
  dp := fun a => dp_tup fun d hd => by
    simp only [List.mem_cons, List.not_mem_nil, or_false] at hd
    rcases hd with rfl | rfl | rfl | rfl | rfl | rfl | rfl
    · exact (c0.dp _).up (by omega)
    · exact (c1.dp _).up (by omega)
    · exact (c2.dp _).up (by omega)
    · exact (c3.dp _).up (by omega)
    · exact (c4.dp _).up (by omega)
    · exact (c5.dp _).up (by omega)
    · exact (c6.dp _).up (by omega)
  eqv := fun a b => by
    unfold eP7
    simp only [D.eqv, eqvs, c0.eqv, c1.eqv, c2.eqv, c3.eqv, c4.eqv, c5.eqv, c6.eqv, Bool.and_true]
    rw [Bool.eq_iff_iff]
    simp [Prod.ext_iff]
theorem cm_P8 {α β γ δ ε ζ η θ : Type} [DecidableEq α] [DecidableEq β] [DecidableEq γ] [DecidableEq δ] [DecidableEq ε] [DecidableEq ζ] [DecidableEq η] [DecidableEq θ] {f0 : α → D} {f1 : β → D} {f2 : γ → D} {f3 : δ → D} {f4 : ε → D} {f5 : ζ → D} {f6 : η → D} {f7 : θ → D} {n0 n1 n2 n3 n4 n5 n6 n7 : Nat} (c0 : Cm f0 n0) (c1 : Cm f1 n1) (c2 : Cm f2 n2) (c3 : Cm f3 n3) (c4 : Cm f4 n4) (c5 : Cm f5 n5) (c6 : Cm f6 n6) (c7 : Cm f7 n7) : Cm (eP8 f0 f1 f2 f3 f4 f5 f6 f7) ((max n0 (max n1 (max n2 (max n3 (max n4 (max n5 (max n6 n7))))))) + 1) where
  dp := fun a => dp_tup fun d hd => by
    simp only [List.mem_cons, List.not_mem_nil, or_false] at hd
    rcases hd with rfl | rfl | rfl | rfl | rfl | rfl | rfl | rfl
    · exact (c0.dp _).up (by omega)
    · exact (c1.dp _).up (by omega)
    · exact (c2.dp _).up (by omega)
    · exact (c3.dp _).up (by omega)
    · exact (c4.dp _).up (by omega)
    · exact (c5.dp _).up (by omega)
    · exact (c6.dp _).up (by omega)
    · exact (c7.dp _).up (by omega)
  eqv := fun a b => by
    unfold eP8
    simp only [D.eqv, eqvs, c0.eqv, c1.eqv, c2.eqv, c3.eqv, c4.eqv, c5.eqv, c6.eqv, c7.eqv, Bool.and_true]
    rw [Bool.eq_iff_iff]
    simp [Prod.ext_iff]
def pl1 {α : Type} (p : α) : List α := [p]
def pl2 {α : Type} (p : α × α) : List α := [p.1, p.2]
def pl3 {α : Type} (p : α × α × α) : List α := [p.1, p.2.1, p.2.2]
def pl4 {α : Type} (p : α × α × α × α) : List α := [p.1, p.2.1, p.2.2.1, p.2.2.2]
def pl5 {α : Type} (p : α × α × α × α × α) : List α := [p.1, p.2.1, p.2.2.1, p.2.2.2.1, p.2.2.2.2]
def pl6 {α : Type} (p : α × α × α × α × α × α) : List α := [p.1, p.2.1, p.2.2.1, p.2.2.2.1, p.2.2.2.2.1, p.2.2.2.2.2]
def pl7 {α : Type} (p : α × α × α × α × α × α × α) : List α := [p.1, p.2.1, p.2.2.1, p.2.2.2.1, p.2.2.2.2.1, p.2.2.2.2.2.1, p.2.2.2.2.2.2]
def pl8 {α : Type} (p : α × α × α × α × α × α × α × α) : List α := [p.1, p.2.1, p.2.2.1, p.2.2.2.1, p.2.2.2.2.1, p.2.2.2.2.2.1, p.2.2.2.2.2.2.1, p.2.2.2.2.2.2.2]

section
variable {S α β γ δ ρ : Type} {G : Gm} {m ma mb mc mo : En S D} {mr : En S (List D)} {e : α → D} {ea : β → D} {eb : γ → D} {ec : δ → D}
theorem un_O (a : Option α) (b : α) (h : id a = some b) : eO e a = e b := by
  have h : a = some b := h
  rw [h]
  rfl
def asI : D → Option Int
  | .int i => some i
  | _ => none
def asS : D → Option Str
  | .str i => some i
  | _ => none
def asB : D → Option Bool
  | .bl i => some i
  | _ => none
def allI : List D → Option (List Int)
  | [] => some []
  | .int i :: l => (allI l).map (i :: ·)
  | _ => none
def allS : List D → Option (List Str)
  | [] => some []
  | .str i :: l => (allS l).map (i :: ·)
  | _ => none
def asTI : D → Option (List Int)
  | .tup l => allI l
  | _ => none
def asTS : D → Option (List Str)
  | .tup l => allS l
  | _ => none
theorem allI_ok : ∀ (l : List D) (b : List Int), allI l = some b → l = b.map D.int
  | [], b, h => by cases h; rfl
  | .int i :: l, b, h => by
    unfold allI at h
    cases e : allI l with
    | none => rw [e] at h; cases h
    | some c => rw [e] at h; cases h; rw [allI_ok l c e]; rfl
  | .non :: _, _, h => by cases h
  | .bl _ :: _, _, h => by cases h
  | .str _ :: _, _, h => by cases h
  | .opq _ :: _, _, h => by cases h
  | .tup _ :: _, _, h => by cases h
  | .lst _ :: _, _, h => by cases h
  | .dct _ :: _, _, h => by cases h
  | .st _ :: _, _, h => by cases h
theorem allS_ok : ∀ (l : List D) (b : List Str), allS l = some b → l = b.map D.str
  | [], b, h => by cases h; rfl
  | .str i :: l, b, h => by
    unfold allS at h
    cases e : allS l with
    | none => rw [e] at h; cases h
    | some c => rw [e] at h; cases h; rw [allS_ok l c e]; rfl
  | .non :: _, _, h => by cases h
  | .bl _ :: _, _, h => by cases h
  | .int _ :: _, _, h => by cases h
  | .opq _ :: _, _, h => by cases h
  | .tup _ :: _, _, h => by cases h
  | .lst _ :: _, _, h => by cases h
  | .dct _ :: _, _, h => by cases h
  | .st _ :: _, _, h => by cases h
theorem asTI_ok (a : D) (b : List Int) (h : asTI a = some b) : id a = eT D.int b := by
  cases a with
  | tup l => show D.tup l = D.tup (b.map D.int); rw [allI_ok l b h]
  | _ => cases h
theorem asTS_ok (a : D) (b : List Str) (h : asTS a = some b) : id a = eT D.str b := by
  cases a with
  | tup l => show D.tup l = D.tup (b.map D.str); rw [allS_ok l b h]
  | _ => cases h
theorem asI_ok (a : D) (b : Int) (h : asI a = some b) : id a = D.int b := by cases a <;> cases h; rfl
theorem asS_ok (a : D) (b : Str) (h : asS a = some b) : id a = D.str b := by cases a <;> cases h; rfl
theorem asB_ok (a : D) (b : Bool) (h : asB a = some b) : id a = D.bl b := by cases a <;> cases h; rfl
theorem T_D (e : α → D) (l : List α) : eT e l = eT id (l.map e) := by unfold eT; rw [List.map_id]
theorem L_D (e : α → D) (l : List α) : eL e l = eL id (l.map e) := by unfold eL; rw [List.map_id]
def catM (l r : List α) : M S (List α) := if l.length + r.length ≤ 16777216 then M.ret (l ++ r) else M.fail
theorem rf_catT {l r : List α} : Ref (RD (eT e)) (M.ofO (dAdd (eT e l) (eT e r)) : M S D) (catM l r) := rf_if fun h => rf_p (by
  have : (l.map e).length + (r.map e).length ≤ 16777216 := by rw [List.length_map, List.length_map]; exact h
  have := q_dAddT this
  unfold eT
  rw [List.map_append]
  exact this)
theorem rf_catL {l r : List α} : Ref (RD (eL e)) (M.ofO (dAdd (eL e l) (eL e r)) : M S D) (catM l r) := rf_if fun h => rf_p (by
  have : (l.map e).length + (r.map e).length ≤ 16777216 := by rw [List.length_map, List.length_map]; exact h
  have := q_dAddL this
  unfold eL
  rw [List.map_append]
  exact this)
def catS (x y : Str) : M S Str := M.ofO ((dAdd (.str x) (.str y)).bind asS)
theorem rf_cast {o : Option D} {f : D → Option α} (h : ∀ a b, f a = some b → id a = e b) : Ref (RD e) (M.ofO o : M S D) (M.ofO (o.bind f)) := by
  cases o with
  | none => exact Ref.fail
  | some d =>
    show Ref (RD e) (M.ret d) (M.ofO (f d))
    cases q : f d with
    | none => exact Ref.fail
    | some b => exact Ref.ret (h d b q)
theorem rf_catS {x y : Str} : Ref (RD D.str) (M.ofO (dAdd (.str x) (.str y)) : M S D) (catS x y) := rf_cast asS_ok
def mulM (i j : Int) : M S Int := if i.natAbs < 2 ^ 64 ∨ j.natAbs < 2 ^ 64 then M.ret (i * j) else M.fail
theorem rf_mul {i j : Int} : Ref (RD D.int) (M.ofO (dMul (.int i) (.int j)) : M S D) (mulM i j) := rf_if fun h => rf_p (if_pos h)
def divM (i j : Int) : M S Int := if 0 < j ∧ j.natAbs < 1073741824 then M.ret (i / j) else M.fail
theorem rf_div {i j : Int} : Ref (RD D.int) (M.ofO (dDiv (.int i) (.int j)) : M S D) (divM i j) := rf_if fun h => rf_p (if_pos h)
def modM (i j : Int) : M S Int := if 0 < j then M.ret (i % j) else M.fail
theorem rf_mod {i j : Int} : Ref (RD D.int) (M.ofO (dMod (.int i) (.int j)) : M S D) (modM i j) := rf_if fun h => rf_p (if_pos h)
def powM (i j : Int) : M S Int := M.ofO ((dPow (.int i) (.int j)).bind asI)
theorem rf_pow {i j : Int} : Ref (RD D.int) (M.ofO (dPow (.int i) (.int j)) : M S D) (powM i j) := rf_cast asI_ok
def eqD (a b : D) : M S Bool := M.ofO (if (a.cmp && b.cmp) = true then some (a.eqv b) else none)
def neD (a b : D) : M S Bool := M.ofO (if (a.cmp && b.cmp) = true then some (!a.eqv b) else none)
theorem rf_eqD {a b : D} : Ref (RD D.bl) (M.ofO (dEq (id a) (id b)) : M S D) (eqD a b) := rf_o (by
  unfold dEq
  show (if (a.cmp && b.cmp) = true then some (D.bl (a.eqv b)) else none) = _
  by_cases h : (a.cmp && b.cmp) = true
  · rw [if_pos h, if_pos h]; rfl
  · rw [if_neg h, if_neg h]; rfl)
theorem rf_neD {a b : D} : Ref (RD D.bl) (M.ofO (dNe (id a) (id b)) : M S D) (neD a b) := rf_o (by
  unfold dNe
  show (if (a.cmp && b.cmp) = true then some (D.bl (!a.eqv b)) else none) = _
  by_cases h : (a.cmp && b.cmp) = true
  · rw [if_pos h, if_pos h]; rfl
  · rw [if_neg h, if_neg h]; rfl)
def inD (a b : D) : M S Bool := M.ofO (dInB a b)
def notInD (a b : D) : M S Bool := M.ofO ((dInB a b).map (!·))
theorem rf_inD {a b : D} : Ref (RD D.bl) (M.ofO (dIn (id a) (id b)) : M S D) (inD a b) := rf_o rfl
theorem rf_notInD {a b : D} : Ref (RD D.bl) (M.ofO (dNotIn (id a) (id b)) : M S D) (notInD a b) := rf_o (by
  show (dInB a b).map _ = _
  rw [Option.map_map]
  rfl)
def isD (a : D) : M S Bool := M.ofO ((dIs a .non).bind asB)
def isNotD (a : D) : M S Bool := M.ofO ((dIsNot a .non).bind asB)
theorem rf_isD {a : D} : Ref (RD D.bl) (M.ofO (dIs (id a) (eU ())) : M S D) (isD a) := rf_cast asB_ok
theorem rf_isNotD {a : D} : Ref (RD D.bl) (M.ofO (dIsNot (id a) (eU ())) : M S D) (isNotD a) := rf_cast asB_ok
theorem o_is (e : α → D) (h : ∀ a, dIs (e a) .non = some (.bl false)) (o : Option α) : dIs (eO e o) (eU ()) = some (.bl o.isNone) := by
  cases o with
  | none => rfl
  | some a => exact h a
theorem o_isNot (e : α → D) (h : ∀ a, dIsNot (e a) .non = some (.bl true)) (o : Option α) : dIsNot (eO e o) (eU ()) = some (.bl o.isSome) := by
  cases o with
  | none => rfl
  | some a => exact h a
def ixM (l : List α) (i : Int) : M S α := M.ofO (atI l i)
theorem at_map (f : α → β) (l : List α) (i : Int) : atI (l.map f) i = (atI l i).map f := by
  unfold atI
  rw [List.length_map]
  cases ixN l.length i with
  | none => rfl
  | some j => exact List.getElem?_map
theorem rf_ixT {l : List α} {i : Int} : Ref (RD e) (M.ofO (dIx (eT e l) (.int i)) : M S D) (ixM l i) := rf_o (at_map e l i)
theorem rf_ixL {l : List α} {i : Int} : Ref (RD e) (M.ofO (dIx (eL e l) (.int i)) : M S D) (ixM l i) := rf_o (at_map e l i)
def ixS (x : Str) (i : Int) : M S Str := M.ofO ((atI x.cps.toList i).map fun c => ⟨#[c]⟩)
theorem rf_ixS {x : Str} {i : Int} : Ref (RD D.str) (M.ofO (dIx (.str x) (.int i)) : M S D) (ixS x i) := rf_o (by
  show (atI x.cps.toList i).map _ = _
  rw [Option.map_map]
  rfl)
theorem rf_ixD {a b : D} : Ref (RD (id : D → D)) (M.ofO (dIx (id a) b) : M S D) (M.ofO (dIx a b)) := rf_o (by show dIx a b = _; cases dIx a b <;> rfl)
theorem rf_oD {o : Option D} : Ref (RD (id : D → D)) (M.ofO o : M S D) (M.ofO o) := rf_o (by cases o <;> rfl)
/-! .index -/
def idxM [DecidableEq α] (l : List α) (a : α) : M S Int := M.ofO (fiT l a)
theorem te_idxT {l : List α} {a : α} {ei : Int → D} {t : M S Int} (h : Ref (RD ei) (M.ofO (dIdx (eT e l) (e a))) t) (ho : PV G mo l (eT e)) (ha : PV G ma a e) : TE G (eIdxT mo ma) t ei := fun env k => by
  rw [q_eIdxT, ho env k, q_bind_ret]
  show Ref _ (M.bind (ma env) (kIdx (eT e l))) _
  rw [ha env k, q_bind_ret, q_kIdx]
  exact h
theorem te_idxL {l : List α} {a : α} {ei : Int → D} {t : M S Int} (h : Ref (RD ei) (M.ofO (dIdx (eL e l) (e a))) t) (ho : PV G mo l (eL e)) (ha : PV G ma a e) : TE G (eIdxL mo ma) t ei := fun env k => by
  rw [q_eIdxL, ho env k, q_bind_ret]
  show Ref _ (M.bind (ma env) (kIdx (eL e l))) _
  rw [ha env k, q_bind_ret, q_kIdx]
  exact h
theorem te_idxmT {to : M S (List α)} {ta : M S α} {ei : Int → D} {t : List α → α → M S Int} (h : ∀ l a, Ref (RD ei) (M.ofO (dIdx (eT e l) (e a))) (t l a)) (ho : TE G mo to (eT e)) (ha : TE G ma ta e) : TE G (eIdxT mo ma) (M.bind to fun l => M.bind ta fun a => t l a) ei := fun env k => by
  rw [q_eIdxT]
  refine Ref.bind (ho env k) fun d l q => ?_
  rw [show d = eT e l from q]
  show Ref _ (M.bind (ma env) (kIdx (eT e l))) _
  refine Ref.bind (ha env k) fun d a q => ?_
  rw [show d = e a from q, q_kIdx]
  exact h l a
theorem te_idxmL {to : M S (List α)} {ta : M S α} {ei : Int → D} {t : List α → α → M S Int} (h : ∀ l a, Ref (RD ei) (M.ofO (dIdx (eL e l) (e a))) (t l a)) (ho : TE G mo to (eL e)) (ha : TE G ma ta e) : TE G (eIdxL mo ma) (M.bind to fun l => M.bind ta fun a => t l a) ei := fun env k => by
  rw [q_eIdxL]
  refine Ref.bind (ho env k) fun d l q => ?_
  rw [show d = eL e l from q]
  show Ref _ (M.bind (ma env) (kIdx (eL e l))) _
  refine Ref.bind (ha env k) fun d a q => ?_
  rw [show d = e a from q, q_kIdx]
  exact h l a
/-! a < b < c -/
theorem pv_chain {f f' : D → D → Option D} {a : β} {b : γ} {c : δ} {x y : Bool} (h : f (ea a) (eb b) = some (.bl x)) (h' : f' (eb b) (ec c) = some (.bl y)) (ha : PV G ma a ea) (hb : PV G mb b eb) (hc : PV G mc c ec) : PV G (eChain f f' ma mb mc) (x && y) .bl := fun env k => by
  rw [q_eChain, ha env k, q_bind_ret, q_kCha, hb env k, q_bind_ret, q_kCh0, h]
  cases x with
  | true => rw [q_kCh1t, hc env k, q_bind_ret, q_kCh2, h', q_ofO_some, Bool.true_and]
  | false => rfl
theorem te_chain {f f' : D → D → Option D} {ta : M S β} {tb : M S γ} {tc : M S δ} {t : β → γ → M S Bool} {u : γ → δ → M S Bool} (h : ∀ a b, Ref (RD D.bl) (M.ofO (f (ea a) (eb b))) (t a b)) (h' : ∀ b c, Ref (RD D.bl) (M.ofO (f' (eb b) (ec c))) (u b c)) (ha : TE G ma ta ea) (hb : TE G mb tb eb) (hc : TE G mc tc ec) :
    TE G (eChain f f' ma mb mc) (M.bind ta fun a => M.bind tb fun b => M.bind (t a b) fun k => if k = true then M.bind tc fun c => u b c else M.ret false) .bl := fun env k => by
  rw [q_eChain]
  refine Ref.bind (ha env k) fun d a z => ?_
  rw [q_kCha]
  refine Ref.bind (hb env k) fun d' b z' => ?_
  rw [q_kCh0, show d = ea a from z, show d' = eb b from z']
  intro s
  have o := h a b s
  cases w : t a b s with
  | ok x s' =>
    rw [w] at o
    obtain ⟨d, hd, z⟩ := o
    have hf : f (ea a) (eb b) = some (.bl x) := by
      cases ff : f (ea a) (eb b) with
      | none => rw [ff] at hd; cases hd
      | some y => rw [ff] at hd; cases hd; rw [show d = .bl x from z]
    have hs : s' = s := by rw [hf] at hd; cases hd; rfl
    subst hs
    rw [bnd_ok w, hf]
    cases x with
    | true =>
      rw [q_kCh1t, if_pos rfl]
      exact Ref.bind (hc env k) (fun d c z => by rw [q_kCh2, show d = ec c from z]; exact h' b c) s'
    | false => exact Ref.ret (R := RD D.bl) rfl s'
  | ex c fs s' =>
    rw [w] at o
    cases ff : f (ea a) (eb b) with
    | none => rw [ff] at o; cases o
    | some y => rw [ff] at o; cases o
  | bad => rw [bnd_bad w]; trivial
/-! built-ins -/
def keysM (l : List (Str × α)) : M S (List Str) := if (l.all fun p => decide (okS p.1)) = true then M.ret (l.map (·.1)) else M.fail
theorem rf_keyskS {l : List (Str × α)} : Ref (RD (eL D.str)) (M.ofO (dList2 [eM kS e l]) : M S D) (keysM l) := rf_if fun h => rf_p (by
  unfold eM dList2
  dsimp only
  rw [if_pos (by rw [List.all_map]; exact h)]
  unfold eL
  rw [List.map_map, List.map_map]
  rfl)
def strM (i : Int) : M S Str := if okS (toString i : Str) ∧ i.natAbs.log2 < 1920 then M.ret (toString i : Str) else M.fail
theorem rf_str {i : Int} : Ref (RD D.str) (M.ofO (dStr [.int i]) : M S D) (strM i) := rf_if fun h => rf_p (if_pos h)
def isiK (d k : D) : M S Bool := M.ofO ((dIsi [d, k]).bind asB)
def isiD (d : D) (t : String) : M S Bool := isiK d (.opq (.ty t))
theorem rf_isiK {d k : D} : Ref (RD D.bl) (M.ofO (dIsi [id d, id k]) : M S D) (isiK d k) := rf_cast asB_ok
theorem rf_isiD {d : D} {t : String} : Ref (RD D.bl) (M.ofO (dIsi [id d, id (.opq (.ty t))]) : M S D) (isiD d t) := rf_cast asB_ok
def lenD (d : D) : M S Int := M.ofO ((dLen [d]).bind asI)
theorem rf_lenD {d : D} : Ref (RD D.int) (M.ofO (dLen [id d]) : M S D) (lenD d) := rf_cast asI_ok
theorem tt_inS {κ : Type} [DecidableEq κ] {k : κ → Key} {ek : κ → D} {neg : Bool} {i : Nat} {t : M S κ} {l : List κ} (j : Kj k ek) (h : gtG G i = some (.ow (eS k l))) (ha : TE G m t ek) : TTb G (tInS neg i m) (M.bind t fun a => M.ret (if neg = true then !memB a l else memB a l)) := fun env q => by
  rw [q_tInS]
  refine Ref.bind (ha env q) fun d a z => ?_
  rw [show d = ek a from z, q_kInS, q.get h]
  show Ref _ (kInS1 neg (l.map k) (keyOf (ek a))) _
  rw [j.of, q_kInS1, memK_map j]
  exact Ref.ret rfl
theorem pv_set0 {κ : Type} (k : κ → Key) : PV (S := S) G (eCB dSet0 aNil) ([] : List κ) (eS k) := fun env _ => rfl
theorem cm_OI : Cm (eO D.int) 0 := cm_O cm_int fun _ => ⟨rfl, rfl⟩
theorem cm_OS : Cm (eO D.str) 0 := cm_O cm_str fun _ => ⟨rfl, rfl⟩
theorem ta_1 {t : M S α} (h : TE G m t e) : TA G (aCons m aNil) t (fun a => [e a]) := fun env k => by
  rw [q_aCons]
  have := Ref.bind (g := M.ret) (R' := fun ds a => ds = [e a]) (f := kConsa aNil env) (h env k) fun d a q => by rw [show d = e a from q]; exact Ref.ret rfl
  rwa [M.bind_ret] at this
theorem ta_2 {t : M S α} {u : M S β} (h : TE G ma t e) (h' : TE G mb u ea) : TA G (aCons ma (aCons mb aNil)) (M.bind t fun a => M.bind u fun b => M.ret (a, b)) (fun p => [e p.1, ea p.2]) := fun env k => by
  rw [q_aCons]
  refine Ref.bind (h env k) fun d a q => ?_
  rw [q_kConsa, q_aCons, M.bind_assoc]
  refine Ref.bind (h' env k) fun d' b q' => ?_
  rw [show d = e a from q, show d' = ea b from q']
  exact Ref.ret rfl
theorem ti_rng1m {t : M S Int} (h : TE G m t .int) : TI G (iOf dRng1 (aCons m aNil)) (M.bind t fun j => rng1 j) .int := ti_rng1 (ta_1 h)
theorem ti_rng2m {t u : M S Int} (h : TE G ma t .int) (h' : TE G mb u .int) : TI G (iOf dRng2 (aCons ma (aCons mb aNil))) (M.bind t fun i => M.bind u fun j => rng2 i j) .int := fun env k => by
  have := ti_rng2 (ta_2 h h') env k
  rw [M.bind_assoc] at this
  have e : (fun a : Int => M.bind (M.bind u fun b => M.ret (a, b)) fun j => (rng2 j.1 j.2 : M S (List Int))) = fun i => M.bind u fun j => rng2 i j := by
    funext a
    rw [M.bind_assoc]
    rfl
  rw [e] at this
  exact this
theorem ti_enumm {t : M S β} {g : β → List α} (s : ∀ b, Sq (ea b) (g b) e) (h : TE G m t ea) : TI G (iEnum (aCons m aNil)) (M.bind t fun b => M.ret (enumL (g b))) (eP .int e) := ti_enum (ta_1 h) fun b => ⟨_, rfl, s b⟩
theorem ti_zipm {t : M S β} {u : M S γ} {g : β → List α} {g2 : γ → List δ} (s : ∀ b, Sq (ea b) (g b) e) (s2 : ∀ b, Sq (eb b) (g2 b) ec) (h : TE G ma t ea) (h' : TE G mb u eb) : TI G (iZip (aCons ma (aCons mb aNil))) (M.bind t fun a => M.bind u fun b => M.ret (List.zip (g a) (g2 b))) (eP e ec) := fun env k => by
  have := ti_zip (g := fun p : β × γ => g p.1) (g2 := fun p : β × γ => g2 p.2) (ta_2 h h') (fun b => ⟨_, _, rfl, s b.1, s2 b.2⟩) env k
  rw [M.bind_assoc] at this
  have e' : (fun a : β => M.bind (M.bind u fun b => M.ret (a, b)) fun p : β × γ => (M.ret (List.zip (g p.1) (g2 p.2)) : M S _)) = fun a => M.bind u fun b => M.ret (List.zip (g a) (g2 b)) := by
    funext a
    rw [M.bind_assoc]
    rfl
  rw [e'] at this
  exact this
theorem ti_Dm {t : M S D} (h : TE G m t id) : TI G (iSeq m) (M.bind t fun d => M.ofO (dItems d)) id := fun env k => by
  rw [q_iSeq]
  refine Ref.bind (h env k) fun d d' z => ?_
  rw [show d = d' from z, q_kIts]
  cases dItems d' with
  | none => exact Ref.fail
  | some l => exact Ref.ret (by rw [List.map_id])
theorem sadd_m {κ : Type} [DecidableEq κ] {k : List κ → M S γ} {kk : κ → Key} {ek : κ → D} {l : List κ} {tb : M S κ} {i : Nat} {rest : En S Fl} {R : Fl → γ → Prop} (j : Kj kk ek) (g : gtG G i = some (.ow (eS kk l))) (h : TE G m tb ek) (hk : ∀ l', TS (stG G i (some (.ow (eS kk l')))) rest (k l') R) : TS G (sSeq (sSAdd i m) rest) (M.bind tb fun b => M.bind (addM l b) k) R := fun env q => by
  rw [q_sSeq, q_sSAdd, q.get g]
  show Ref R (M.bind (kAdd0 i m env (some (.ow (.st (l.map kk))))) _) _
  rw [q_kAdd0, M.bind_assoc]
  refine Ref.bind (h env q) fun d b z => ?_
  rw [show d = ek b from z, q_kAdd1, j.of]
  unfold addM
  by_cases c : l.length < 4000
  · rw [if_pos c, q_kAdd2 (by rw [List.length_map]; exact c), memL_map j]
    exact hk _ _ q.set
  · rw [if_neg c]
    exact Ref.fail
theorem o_rev2L (e : α → D) (l : List α) : dRev2 (eL e l) = some (eL e l.reverse) := by
  show some (D.lst (l.map e).reverse) = _
  rw [← List.map_reverse]
  rfl
theorem o_rev2T (e : α → D) (l : List α) : dRev2 (eT e l) = some (eT e l.reverse) := by
  show some (D.tup (l.map e).reverse) = _
  rw [← List.map_reverse]
  rfl
theorem ti_TH {t : M S (List α)} (hd : Hd (eT e)) (h : TE G m t (eT e)) : TI G (iSeqH m) t e := fun env k => by
  have : iSeqH m env = M.bind (m env) fun d => if d.hard = true then M.ofO (dItems d) else M.fail := rfl
  rw [this]
  have := Ref.bind (g := M.ret) (R' := fun ds xs => ds = List.map e xs) (f := fun d => if d.hard = true then M.ofO (dItems d) else M.fail) (h env k) fun d l q => by
    rw [show d = eT e l from q, if_pos (hd.ok l)]
    exact Ref.ret rfl
  rwa [M.bind_ret] at this
theorem rf_ixk {a : β} {i k : Int} {c : α} (h : dIx (ea a) (.int k) = some (e c)) : Ref (RD e) (M.ofO (dIx (ea a) (.int i)) : M S D) (if i = k then M.ret c else M.fail) := rf_if fun z => by rw [z]; exact rf_p h
/-! try -/
def exVal (cl : List (Str × HR)) (c : Str) (fs : List (Str × D)) : Option D := (hrOf cl c).bind fun r => (r.val fs).bind fun d => if d.hard = true then some d else none
def tryM (cl : List (Str × HR)) (t : M S α) (h : D → M S γ) (k : M S γ) : M S γ := fun s => match t s with
  | .ok _ s' => k s'
  | .ex c fs s' => (match exVal cl c fs with
    | some d => h d s'
    | none => .bad)
  | .bad => .bad
theorem tryEnd_eq {i : Nat} {cl : List (Str × HR)} {env : List Sl} {c : Str} {fs : List (Str × D)} {d : D} (hi : i < env.length) (h : exVal cl c fs = some d) : tryEnd i cl env c fs = some d := by
  unfold exVal at h
  unfold tryEnd
  rw [decide_eq_true hi]
  simp only [Bool.and_true]
  exact h
theorem ts_tryM {i n : Nat} {cl : List (Str × HR)} {fn : List D → M S D} {ds : List D} {t : M S α} {tk : M S γ} {f : D → γ} {rest : En S Fl} {R : Fl → γ → Prop} (r : RtK (id : D → D) R f) (hf : Ref (RD e) (fn ds) t) (h : PVs G mr ds) (hk : TS G rest tk R) (hl : ds.length = n := by rfl) (hi : i < G.length := by exact Nat.le_of_ble_eq_true rfl) : TS G (sSeq (sTryN i cl fn n mr) rest) (tryM cl t (fun d => M.ret (f d)) tk) R := fun env q => by
  refine Ref.of (fun s a s' w => ?_) (fun s c fs s' w => ?_)
  · rw [q_sSeq]
    have ht := hf s
    unfold tryM at w
    cases u : t s with
    | ok b s1 =>
      rw [u] at ht w
      obtain ⟨d, hd, _⟩ := ht
      have e1 : sTryN i cl fn n mr env s = .ok (.nx env) s1 := by
        unfold sTryN
        rw [h env q]
        show (if ds.length = n then tryResN i cl env (fn ds s) else .bad) = _
        rw [if_pos hl, hd]
        rfl
      rw [bnd_ok e1]
      have := hk env q s1
      rw [show tk s1 = Out.ok a s' from w] at this
      exact this
    | ex c fs s1 =>
      rw [u] at ht w
      have ht : fn ds s = .ex c fs s1 := ht
      dsimp only at w
      cases v : exVal cl c fs with
      | none => rw [v] at w; cases w
      | some d =>
        rw [v] at w
        have e1 : sTryN i cl fn n mr env s = .ok (.rt d) s1 := by
          unfold sTryN
          rw [h env q]
          show (if ds.length = n then tryResN i cl env (fn ds s) else .bad) = _
          rw [if_pos hl, ht]
          unfold tryResN
          dsimp only
          rw [tryEnd_eq (by rw [q.len]; exact hi) v]
        rw [bnd_ok e1]
        cases w
        exact ⟨.rt d, rfl, r.ok d⟩
    | bad => rw [u] at w; cases w
  · rw [q_sSeq]
    have ht := hf s
    unfold tryM at w
    cases u : t s with
    | ok b s1 =>
      rw [u] at ht w
      obtain ⟨d, hd, _⟩ := ht
      have e1 : sTryN i cl fn n mr env s = .ok (.nx env) s1 := by
        unfold sTryN
        rw [h env q]
        show (if ds.length = n then tryResN i cl env (fn ds s) else .bad) = _
        rw [if_pos hl, hd]
        rfl
      rw [bnd_ok e1]
      have := hk env q s1
      rw [show tk s1 = Out.ex c fs s' from w] at this
      exact this
    | ex c' fs' s1 =>
      rw [u] at w
      dsimp only at w
      cases v : exVal cl c' fs' with
      | none => rw [v] at w; cases w
      | some d => rw [v] at w; cases w
    | bad => rw [u] at w; cases w
theorem ts_tryT {i n : Nat} {cl : List (Str × HR)} {fn : List D → M S D} {ds : List D} {t : M S α} {tk : M S D} {rest : En S Fl} (hf : Ref (RD e) (fn ds) t) (h : PVs G mr ds) (hk : TS G rest tk (RT (id : D → D))) (hl : ds.length = n := by rfl) (hi : i < G.length := by exact Nat.le_of_ble_eq_true rfl) : TS G (sSeq (sTryN i cl fn n mr) rest) (tryM cl t M.ret tk) (RT (id : D → D)) := ts_tryM rk_T hf h hk hl hi
def e0 (v : Empty) : D := nomatch v
theorem rk_0 {R : Fl → γ → Prop} {l : Empty → γ} : RtK e0 R l := ⟨fun v => nomatch v⟩
end
end DD
namespace DD
open PySem PySem.Spec PyProof.Rows L2
/-- m ends well, with a value as Q says -/
def Tr {S α : Type} (m : M S α) (Q : α → Prop) : Prop := ∀ s, ∃ a s', m s = .ok a s' ∧ Q a
section
variable {S α β γ σ ρ : Type} {m : M S α} {f : α → M S β} {Q Q' : α → Prop} {P : β → Prop}
theorem Tr.ret {a : α} (h : Q a) : Tr (M.ret a : M S α) Q := fun s => ⟨a, s, rfl, h⟩
theorem Tr.bind (h : Tr m Q) (k : ∀ a, Q a → Tr (f a) P) : Tr (M.bind m f) P := fun s => by
  obtain ⟨a, s1, h1, q⟩ := h s
  obtain ⟨b, s2, h2, p⟩ := k a q s1
  exact ⟨b, s2, by rw [bnd_ok h1]; exact h2, p⟩
theorem Tr.mono (h : Tr m Q) (k : ∀ a, Q a → Q' a) : Tr m Q' := fun s => by
  obtain ⟨a, s1, h1, q⟩ := h s
  exact ⟨a, s1, h1, k a q⟩
theorem Tr.eq {a : α} (h : m = M.ret a) (q : Q a) : Tr m Q := by rw [h]; exact Tr.ret q
theorem Tr.noex (h : Tr m Q) : Tr (DD.noex m) Q := fun s => by
  obtain ⟨a, s1, h1, q⟩ := h s
  exact ⟨a, s1, by unfold DD.noex; rw [h1], q⟩
theorem Tr.forS {g : α → σ → M S σ} (Inv : Nat → σ → Prop) : ∀ (xs : List α) {st : σ}, Inv 0 st → (∀ (i : Nat) x st, xs[i]? = some x → Inv i st → Tr (g x st) (Inv (i + 1))) → Tr (forS g xs st) (Inv xs.length)
  | [], st, h0, _ => Tr.ret h0
  | x :: xs, st, h0, h => by
    refine Tr.bind (h 0 x st rfl h0) fun st1 h1 => ?_
    exact Tr.forS (g := g) (fun i => Inv (i + 1)) xs h1 fun i y st hy hi => h (i + 1) y st (by simpa using hy) hi
theorem Tr.comp {p : α → M S Bool} {g : α → M S β} (hb : α → Prop) : ∀ (xs : List α), (∀ x ∈ xs, hb x) → (∀ x, hb x → Tr (p x) fun _ => True) → (∀ x, hb x → Tr (g x) P) → Tr (compT p g xs) fun ys => ys.length ≤ xs.length ∧ ∀ y ∈ ys, P y
  | [], _, _, _ => Tr.ret ⟨Nat.le_refl _, fun y h => by cases h⟩
  | x :: xs, hx, hp, hg => by
    unfold compT
    refine Tr.bind (Tr.noex (hp x (hx x List.mem_cons_self))) fun b _ => ?_
    have ih := Tr.comp hb xs (fun y hy => hx y (List.mem_cons_of_mem _ hy)) hp hg
    cases b with
    | true =>
      rw [if_pos rfl]
      refine Tr.bind (Tr.noex (hg x (hx x List.mem_cons_self))) fun y hy => Tr.bind ih fun ys hys => Tr.ret ⟨by simp only [List.length_cons]; omega, fun z hz => ?_⟩
      rcases List.mem_cons.mp hz with rfl | hz
      · exact hy
      · exact hys.2 z hz
    | false =>
      rw [if_neg (by decide)]
      exact ih.mono fun ys h => ⟨by simp only [List.length_cons]; omega, h.2⟩
/-- all items, each drawn: what stands in order -/
theorem Tr.compAll {g : α → M S β} (Q : α → β → Prop) : ∀ (xs : List α), (∀ x ∈ xs, Tr (g x) (Q x)) → Tr (compT (fun _ => M.ret true) g xs) fun ys => ys.length = xs.length ∧ ∀ (i : Nat) (x : α) (y : β), xs[i]? = some x → ys[i]? = some y → Q x y
  | [], _ => Tr.ret ⟨rfl, fun i x y h => by cases h⟩
  | x :: xs, hg => by
    unfold compT
    refine Tr.bind (Tr.noex (Tr.ret (Q := (· = true)) rfl)) fun b hb => ?_
    rw [if_pos hb]
    refine Tr.bind (Tr.noex (hg x List.mem_cons_self)) fun y hy => Tr.bind (Tr.compAll Q xs (fun y hy => hg y (List.mem_cons_of_mem _ hy))) fun ys hys => Tr.ret ⟨by simp only [List.length_cons, hys.1], fun i x' y' h1 h2 => ?_⟩
    cases i with
    | zero => cases h1; cases h2; exact hy
    | succ i => exact hys.2 i x' y' (by simpa using h1) (by simpa using h2)
/-- those items whose draw says so -/
theorem Tr.compSub {p : α → M S Bool} : ∀ (xs : List α), (∀ x ∈ xs, Tr (p x) fun _ => True) → Tr (compT p M.ret xs) fun ys => ys.Sublist xs
  | [], _ => Tr.ret (List.Sublist.refl _)
  | x :: xs, hp => by
    unfold compT
    refine Tr.bind (Tr.noex (hp x List.mem_cons_self)) fun b _ => ?_
    have ih := Tr.compSub (p := p) xs (fun y hy => hp y (List.mem_cons_of_mem _ hy))
    cases b with
    | true =>
      rw [if_pos rfl]
      refine Tr.bind (Tr.noex (Tr.ret (Q := (· = x)) rfl)) fun y hy => Tr.bind ih fun ys h => Tr.ret ?_
      rw [hy]
      exact h.cons₂ x
    | false =>
      rw [if_neg (by decide)]
      exact ih.mono fun ys h => h.cons x
end
/-! ### reckoning -/
section
variable {S α β γ δ ρ σ : Type}
theorem andM_ret (a : Bool) (t : M S Bool) : andM (M.ret a) t = if a = true then t else M.ret false := rfl
theorem orM_ret (a : Bool) (t : M S Bool) : orM (M.ret a) t = if a = true then M.ret true else t := rfl
theorem notM_ret (a : Bool) : notM (M.ret a : M S Bool) = M.ret (!a) := rfl
theorem andM_rr (a b : Bool) : andM (M.ret a) (M.ret b : M S Bool) = M.ret (a && b) := by cases a <;> rfl
theorem orM_rr (a b : Bool) : orM (M.ret a) (M.ret b : M S Bool) = M.ret (a || b) := by cases a <;> rfl
theorem bind_ite {c : Prop} [Decidable c] (x y : M S α) (f : α → M S β) : M.bind (if c then x else y) f = if c then M.bind x f else M.bind y f := by
  by_cases h : c
  · rw [if_pos h, if_pos h]
  · rw [if_neg h, if_neg h]
theorem lpK_inl (l : ρ → M S β) (k : σ → M S β) (v : ρ) : lpK l k (.inl v) = l v := rfl
theorem lpK_inr (l : ρ → M S β) (k : σ → M S β) (st : σ) : lpK l k (.inr st) = k st := rfl
theorem forS_nil (f : α → σ → M S σ) (st : σ) : forS f [] st = M.ret st := rfl
theorem forS_cons (f : α → σ → M S σ) (x : α) (xs : List α) (st : σ) : forS f (x :: xs) st = M.bind (f x st) (forS f xs) := rfl
theorem forC_nil (f : α → σ → M S (Ctl ρ σ)) (st : σ) : forC f [] st = M.ret (.inr st) := rfl
/-- by a function of the turns done -/
theorem forS_eq {f : α → σ → M S σ} (g : Nat → σ) : ∀ (xs : List α), (∀ i x, xs[i]? = some x → f x (g i) = M.ret (g (i + 1))) → forS f xs (g 0) = M.ret (g xs.length)
  | [], _ => rfl
  | x :: xs, h => by
    rw [forS_cons, h 0 x rfl, q_bind_ret]
    exact forS_eq (fun i => g (i + 1)) xs fun i y hy => h (i + 1) y (by simpa using hy)
/-- by a fold, an invariant kept -/
theorem forS_fold {f : α → σ → M S σ} (g : σ → α → σ) (I : σ → Prop) : ∀ (xs : List α) {st : σ}, I st → (∀ x ∈ xs, ∀ st, I st → f x st = M.ret (g st x) ∧ I (g st x)) → forS f xs st = M.ret (xs.foldl g st) ∧ I (xs.foldl g st)
  | [], st, h, _ => ⟨rfl, h⟩
  | x :: xs, st, h, k => by
    obtain ⟨h1, h2⟩ := k x List.mem_cons_self st h
    rw [forS_cons, h1, q_bind_ret]
    exact forS_fold g I xs h2 fun y hy => k y (List.mem_cons_of_mem _ hy)
/-- a turn that only looks: none leaves -/
theorem forC_thru {f : α → σ → M S (Ctl ρ σ)} (g : Nat → σ) : ∀ (xs : List α), (∀ i x, xs[i]? = some x → f x (g i) = M.ret (.nx (g (i + 1)))) → forC f xs (g 0) = M.ret (.inr (g xs.length))
  | [], _ => rfl
  | x :: xs, h => by
    rw [forC, h 0 x rfl, q_bind_ret]
    exact forC_thru (fun i => g (i + 1)) xs fun i y hy => h (i + 1) y (by simpa using hy)
/-- the first turn that leaves, where no state is carried -/
theorem forC_find {f : α → Unit → M S (Ctl ρ Unit)} (o : α → Option ρ) : ∀ (xs : List α), (∀ x ∈ xs, f x () = M.ret (match o x with | some v => .rt v | none => .nx ())) → forC f xs () = M.ret (match xs.findSome? o with | some v => .inl v | none => .inr ())
  | [], _ => rfl
  | x :: xs, h => by
    rw [forC, h x List.mem_cons_self, q_bind_ret]
    cases q : o x with
    | some v => rw [List.findSome?_cons, q]
    | none =>
      rw [List.findSome?_cons, q]
      exact forC_find o xs fun y hy => h y (List.mem_cons_of_mem _ hy)
/-- .. and all leave alike -/
theorem forC_any {f : α → Unit → M S (Ctl ρ Unit)} (p : α → Bool) (v : ρ) : ∀ (xs : List α), (∀ x ∈ xs, f x () = M.ret (if p x = true then .rt v else .nx ())) → forC f xs () = M.ret (if xs.any p = true then .inl v else .inr ())
  | [], _ => rfl
  | x :: xs, h => by
    rw [forC, h x List.mem_cons_self, q_bind_ret]
    cases q : p x with
    | true => rw [List.any_cons, q, Bool.true_or, if_pos rfl, if_pos rfl]
    | false =>
      rw [List.any_cons, q, Bool.false_or, if_neg (by decide)]
      exact forC_any p v xs fun y hy => h y (List.mem_cons_of_mem _ hy)
theorem compT_eq {p : α → M S Bool} {g : α → M S β} (p' : α → Bool) (g' : α → β) : ∀ (xs : List α), (∀ x ∈ xs, p x = M.ret (p' x)) → (∀ x ∈ xs, p' x = true → g x = M.ret (g' x)) → compT p g xs = M.ret ((xs.filter p').map g')
  | [], _, _ => rfl
  | x :: xs, h, k => by
    have ih := compT_eq p' g' xs (fun y hy => h y (List.mem_cons_of_mem _ hy)) (fun y hy => k y (List.mem_cons_of_mem _ hy))
    unfold compT
    rw [h x List.mem_cons_self, q_noex_ret, q_bind_ret]
    cases q : p' x with
    | true => rw [if_pos rfl, k x List.mem_cons_self q, q_noex_ret, q_bind_ret, ih, q_bind_ret, List.filter_cons_of_pos q, List.map_cons]
    | false => rw [if_neg (by decide), ih, List.filter_cons_of_neg (by rw [q]; decide)]
theorem lcM_eq {p : α → M S Bool} {g : α → M S β} {xs : List α} (p' : α → Bool) (g' : α → β) (hl : xs.length ≤ 16777216) (h : ∀ x ∈ xs, p x = M.ret (p' x)) (k : ∀ x ∈ xs, p' x = true → g x = M.ret (g' x)) : lcM p g xs = M.ret ((xs.filter p').map g') := by
  unfold lcM
  rw [if_pos hl]
  exact compT_eq p' g' xs h k
theorem lcM_map {g : α → M S β} {xs : List α} (g' : α → β) (hl : xs.length ≤ 16777216) (k : ∀ x ∈ xs, g x = M.ret (g' x)) : lcM (fun _ => M.ret true) g xs = M.ret (xs.map g') := by
  rw [lcM_eq (fun _ => true) g' hl (fun _ _ => rfl) fun x hx _ => k x hx]
  congr 2
  exact List.filter_eq_self.mpr fun _ _ => rfl
theorem appM_eq {l : List α} {x : α} (h : l.length < 16777216) : (appM l x : M S (List α)) = M.ret (l ++ [x]) := if_pos h
theorem putM_eq {κ : Type} [DecidableEq κ] {l : List (κ × α)} {k : κ} {v : α} (h : l.length < 16777216) : (putM l k v : M S _) = M.ret (putT l k v) := if_pos h
theorem addM_eq {κ : Type} [DecidableEq κ] {l : List κ} {k : κ} (h : l.length < 4000) : (addM l k : M S _) = M.ret (addT l k) := if_pos h
theorem putL_eq {l : List α} {i : Nat} {v : α} (h : i < l.length) : (putL l (i : Int) v : M S _) = M.ret (l.set i v) := by
  unfold putL
  have : ixN l.length (i : Int) = some i := by
    unfold ixN
    rw [if_pos (by omega), if_pos (by omega), Int.toNat_natCast]
  rw [this]
theorem ixM_eq {l : List α} {i : Nat} {v : α} (h : l[i]? = some v) : (ixM l (i : Int) : M S _) = M.ret v := by
  unfold ixM
  have : atI l (i : Int) = some v := atI_nat h
  rw [this]
  rfl
theorem rng1_eq {n : Nat} (h : n ≤ 16777216) : (rng1 (n : Int) : M S _) = M.ret (rngL 0 n) := by
  unfold rng1
  rw [if_pos (by omega), Int.toNat_natCast]
theorem rngL_get {lo : Int} {n i : Nat} {x : Int} (h : (rngL lo n)[i]? = some x) : i < n ∧ x = lo + (i : Nat) := by
  unfold rngL at h
  rw [List.getElem?_map] at h
  obtain ⟨z, h1, h2⟩ := Option.map_eq_some_iff.mp h
  obtain ⟨hi, e⟩ := List.getElem?_eq_some_iff.mp h1
  simp at hi e
  subst e
  exact ⟨hi, h2.symm⟩
theorem enumL_get {l : List α} {i : Nat} {x : Int × α} (h : (enumL l)[i]? = some x) : ∃ z, l[i]? = some z ∧ x = ((i : Int), z) := by
  unfold enumL at h
  rw [List.getElem?_mapIdx] at h
  obtain ⟨z, h1, h2⟩ := Option.map_eq_some_iff.mp h
  exact ⟨z, h1, h2.symm⟩
theorem enumL_length {l : List α} : (enumL l).length = l.length := by unfold enumL; rw [List.length_mapIdx]
theorem rngL_length {lo : Int} {n : Nat} : (rngL lo n).length = n := by unfold rngL; rw [List.length_map, List.length_range]
theorem while_t {t : σ → M S Bool} {f : σ → M S σ} {n : Nat} {st st' : σ} (h : t st = M.ret true) (hf : f st = M.ret st') : whileS t f (n + 1) st = whileS t f n st' := by
  rw [whileS, h, q_bind_ret, if_pos rfl, hf, q_bind_ret]
theorem while_f {t : σ → M S Bool} {f : σ → M S σ} {n : Nat} {st : σ} (h : t st = M.ret false) : whileS t f (n + 1) st = M.ret st := by
  rw [whileS, h, q_bind_ret, if_neg (by decide)]
end
/-! what is the same as itself, by the laws' own look -/
def smD : Nat → D → Prop
  | 0, _ => False
  | _ + 1, .str _ => True
  | _ + 1, .int _ => True
  | _ + 1, .bl _ => True
  | _ + 1, .non => True
  | n + 1, .tup l => l.length ≤ 16777216 ∧ ∀ d ∈ l, smD n d
  | _, _ => False
end DD
namespace DD
open PySem PySem.Spec PyProof.Rows L2
section
variable {S α β γ δ ρ σ : Type} {e : α → D}
/-! ### data -/
theorem isi_T (l : List α) : (isiD (eT e l) "tuple" : M S Bool) = M.ret true := by
  show M.ofO ((dIsi [.tup (l.map e), .opq (.ty "tuple")]).bind asB) = _
  rfl
theorem isi_T2 (l : List D) : (isiD (.tup l) "tuple" : M S Bool) = M.ret true := rfl
theorem isi_L (l : List α) : (isiD (eL e l) "tuple" : M S Bool) = M.ret false := rfl
theorem isi_S (x : Str) : (isiD (.str x) "str" : M S Bool) = M.ret true := rfl
theorem isi_I (x : Int) : (isiD (.int x) "int" : M S Bool) = M.ret true := rfl
theorem isi_Ib (x : Int) : (isiD (.int x) "bool" : M S Bool) = M.ret false := rfl
theorem isi_St (x : Str) : (isiD (.str x) "tuple" : M S Bool) = M.ret false := rfl
theorem isi_It (x : Int) : (isiD (.int x) "tuple" : M S Bool) = M.ret false := rfl
theorem isi_Nt : (isiD .non "tuple" : M S Bool) = M.ret false := rfl
theorem isi_Ns : (isiD .non "str" : M S Bool) = M.ret false := rfl
theorem isi_Is (x : Int) : (isiD (.int x) "str" : M S Bool) = M.ret false := rfl
theorem isi_Si (x : Str) : (isiD (.str x) "int" : M S Bool) = M.ret false := rfl
theorem isi_Bi (x : Bool) : (isiD (.bl x) "int" : M S Bool) = M.ret true := rfl
theorem isi_Bb (x : Bool) : (isiD (.bl x) "bool" : M S Bool) = M.ret true := rfl
theorem lenD_T (l : List α) : (lenD (eT e l) : M S Int) = M.ret ((l.length : Nat) : Int) := by
  show M.ofO (some ((l.map e).length : Int)) = _
  rw [List.length_map]; rfl
theorem lenD_T2 (l : List D) : (lenD (.tup l) : M S Int) = M.ret ((l.length : Nat) : Int) := rfl
theorem its_T (l : List α) : dItems (eT e l) = some (l.map e) := rfl
theorem its_L (l : List α) : dItems (eL e l) = some (l.map e) := rfl
theorem its_T2 (l : List D) : dItems (.tup l) = some l := rfl
theorem asS_S (x : Str) : asS (.str x) = some x := rfl
theorem asI_I (x : Int) : asI (.int x) = some x := rfl
theorem asB_B (x : Bool) : asB (.bl x) = some x := rfl
theorem inD_T [DecidableEq α] {n : Nat} (c : Cm e n) (a : α) (l : List α) (hn : n + 1 ≤ 60 := by decide) : (inD (e a) (eT e l) : M S Bool) = M.ret (memB a l) := by
  have h := o_inT c a l hn
  unfold dIn at h
  unfold inD
  cases q : dInB (e a) (eT e l) with
  | none => rw [q] at h; cases h
  | some b => rw [q] at h; cases h; rfl
theorem notInD_T [DecidableEq α] {n : Nat} (c : Cm e n) (a : α) (l : List α) (hn : n + 1 ≤ 60 := by decide) : (notInD (e a) (eT e l) : M S Bool) = M.ret (!memB a l) := by
  have h := o_inT c a l hn
  unfold dIn at h
  unfold notInD
  cases q : dInB (e a) (eT e l) with
  | none => rw [q] at h; cases h
  | some b => rw [q] at h; cases h; rfl
theorem eqD_S (x y : Str) : (eqD (.str x) (.str y) : M S Bool) = M.ret (decide (x = y)) := by
  unfold eqD
  rw [if_pos (by rfl)]
  have : (D.str x).eqv (.str y) = decide (x = y) := cm_str.eqv x y
  rw [this]
  rfl
theorem eqD_Cm [DecidableEq α] {n : Nat} (c : Cm e n) (x y : α) (hn : n ≤ 60 := by decide) : (eqD (e x) (e y) : M S Bool) = M.ret (decide (x = y)) := by
  unfold eqD
  rw [c.cmp hn, c.cmp hn, if_pos (by rfl), c.eqv]
  rfl
theorem ixD_P0 {β' : Type} {f : β' → D} (p : α × β') : dIx (eP e f p) (.int 0) = some (e p.1) := ix_P2_0 p
theorem ixD_P1 {β' : Type} {f : β' → D} (p : α × β') : dIx (eP e f p) (.int 1) = some (f p.2) := ix_P2_1 p
theorem andM_t (t : M S Bool) : andM (M.ret true) t = t := rfl
theorem andM_f (t : M S Bool) : andM (M.ret false) t = M.ret false := rfl
theorem orM_t (t : M S Bool) : orM (M.ret true) t = M.ret true := rfl
theorem orM_f (t : M S Bool) : orM (M.ret false) t = t := rfl
theorem ite_ret {c : Prop} [Decidable c] (x y : α) : (if c then (M.ret x : M S α) else M.ret y) = M.ret (if c then x else y) := by
  by_cases h : c
  · rw [if_pos h, if_pos h]
  · rw [if_neg h, if_neg h]
/-! ### loops -/
theorem forS_app {f : α → List β → M S (List β)} (p : α → Bool) (g : α → β) : ∀ (xs : List α) (st : List β), st.length + xs.length ≤ 16777216 → (∀ x ∈ xs, ∀ st : List β, st.length < 16777216 → f x st = M.ret (if p x = true then st ++ [g x] else st)) → forS f xs st = M.ret (st ++ (xs.filter p).map g)
  | [], st, _, _ => by rw [forS_nil]; simp
  | x :: xs, st, hl, h => by
    simp only [List.length_cons] at hl
    rw [forS_cons, h x List.mem_cons_self st (by omega), q_bind_ret]
    by_cases q : p x = true
    · rw [if_pos q, forS_app p g xs _ (by simp only [List.length_append, List.length_cons, List.length_nil]; omega) fun y hy => h y (List.mem_cons_of_mem _ hy)]
      rw [List.filter_cons_of_pos q]
      simp
    · rw [if_neg q, forS_app p g xs _ (by omega) fun y hy => h y (List.mem_cons_of_mem _ hy), List.filter_cons_of_neg q]
theorem forS_apm {f : α → List β → M S (List β)} (g : α → β) (xs : List α) (st : List β) (hl : st.length + xs.length ≤ 16777216) (h : ∀ x ∈ xs, ∀ st : List β, st.length < 16777216 → f x st = M.ret (st ++ [g x])) : forS f xs st = M.ret (st ++ xs.map g) := by
  rw [forS_app (fun _ => true) g xs st hl fun x hx st hs => by rw [if_pos rfl]; exact h x hx st hs]
  congr 3
  exact List.filter_eq_self.mpr fun _ _ => rfl
theorem forS_congr {f : α → σ → M S σ} {f' : β → σ → M S σ} : ∀ (xs : List α) (ys : List β) (st : σ), xs.length = ys.length → (∀ (i : Nat) x y st, xs[i]? = some x → ys[i]? = some y → f x st = f' y st) → forS f xs st = forS f' ys st
  | [], [], _, _, _ => rfl
  | [], _ :: _, _, h, _ => by simp at h
  | _ :: _, [], _, h, _ => by simp at h
  | x :: xs, y :: ys, st, hl, h => by
    rw [forS_cons, forS_cons, h 0 x y st rfl rfl]
    congr 1
    funext st
    exact forS_congr xs ys st (by simpa using hl) fun i x y st h1 h2 => h (i + 1) x y st (by simpa using h1) (by simpa using h2)
theorem forC_congr {f : α → σ → M S (Ctl ρ σ)} {f' : β → σ → M S (Ctl ρ σ)} : ∀ (xs : List α) (ys : List β) (st : σ), xs.length = ys.length → (∀ (i : Nat) x y st, xs[i]? = some x → ys[i]? = some y → f x st = f' y st) → forC f xs st = forC f' ys st
  | [], [], _, _, _ => rfl
  | [], _ :: _, _, h, _ => by simp at h
  | _ :: _, [], _, h, _ => by simp at h
  | x :: xs, y :: ys, st, hl, h => by
    rw [forC, forC, h 0 x y st rfl rfl]
    congr 1
    funext c
    cases c with
    | nx st => exact forC_congr xs ys st (by simpa using hl) fun i x y st h1 h2 => h (i + 1) x y st (by simpa using h1) (by simpa using h2)
    | bk st => rfl
    | rt v => rfl
/-- range(len(l)) is as enumerate(l) -/
theorem forS_rng {f : Int → σ → M S σ} {f' : Int × α → σ → M S σ} (l : List α) (st : σ) (h : ∀ (i : Nat) x st, l[i]? = some x → f (i : Int) st = f' ((i : Int), x) st) : forS f (rngL 0 l.length) st = forS f' (enumL l) st :=
  forS_congr _ _ _ (by rw [rngL_length, enumL_length]) fun i x y st h1 h2 => by
    obtain ⟨_, rfl⟩ := rngL_get h1
    obtain ⟨z, hz, rfl⟩ := enumL_get h2
    rw [Int.zero_add]
    exact h i z st hz
/-- every turn just goes on -/
theorem forS_unit {f : α → Unit → M S Unit} : ∀ (xs : List α), (∀ x ∈ xs, f x () = M.ret ()) → forS f xs () = M.ret ()
  | [], _ => rfl
  | x :: xs, h => by
    rw [forS_cons, h x List.mem_cons_self, q_bind_ret]
    exact forS_unit xs fun y hy => h y (List.mem_cons_of_mem _ hy)
theorem forC_unit {f : α → Unit → M S (Ctl ρ Unit)} : ∀ (xs : List α), (∀ x ∈ xs, f x () = M.ret (.nx ())) → forC f xs () = M.ret (.inr ())
  | [], _ => rfl
  | x :: xs, h => by
    rw [forC, h x List.mem_cons_self, q_bind_ret]
    exact forC_unit xs fun y hy => h y (List.mem_cons_of_mem _ hy)
/-- the first that leaves -/
theorem forC_first {f : α → Unit → M S (Ctl ρ Unit)} {v : ρ} : ∀ {xs : List α} {j : Nat} {y : α}, xs[j]? = some y → (∀ (i : Nat) x, i < j → xs[i]? = some x → f x () = M.ret (.nx ())) → f y () = M.ret (.rt v) → forC f xs () = M.ret (.inl v)
  | [], _, _, h, _, _ => by cases h
  | x :: xs, 0, y, h, _, k => by
    cases h
    rw [forC, k, q_bind_ret]
  | x :: xs, j + 1, y, h, g, k => by
    rw [forC, g 0 x (by omega) rfl, q_bind_ret]
    exact forC_first (xs := xs) (j := j) (by simpa using h) (fun i x hi hx => g (i + 1) x (by omega) (by simpa using hx)) k
theorem forS_first {f : α → Unit → M S Unit} {c : Str} {fs : List (Str × D)} : ∀ {xs : List α} {j : Nat} {y : α}, xs[j]? = some y → (∀ (i : Nat) x, i < j → xs[i]? = some x → f x () = M.ret ()) → f y () = M.exn c fs → forS f xs () = M.exn c fs
  | [], _, _, h, _, _ => by cases h
  | x :: xs, 0, y, h, _, k => by
    cases h
    rw [forS_cons, k, q_bind_exn]
  | x :: xs, j + 1, y, h, g, k => by
    rw [forS_cons, g 0 x (by omega) rfl, q_bind_ret]
    exact forS_first (xs := xs) (j := j) (by simpa using h) (fun i x hi hx => g (i + 1) x (by omega) (by simpa using hx)) k
def ctlP (I : σ → Prop) (P : ρ → Prop) : Ctl ρ σ → Prop
  | .nx st => I st
  | .bk st => I st
  | .rt v => P v
def sumP (I : σ → Prop) (P : ρ → Prop) : ρ ⊕ σ → Prop
  | .inl v => P v
  | .inr st => I st
theorem forC_inv {f : α → σ → M S (Ctl ρ σ)} (I : σ → Prop) (P : ρ → Prop) : ∀ (xs : List α) {st : σ}, I st → (∀ x ∈ xs, ∀ st, I st → ∃ c, f x st = M.ret c ∧ ctlP I P c) → ∃ r, forC f xs st = M.ret r ∧ sumP I P r
  | [], st, h, _ => ⟨.inr st, rfl, h⟩
  | x :: xs, st, h, k => by
    obtain ⟨c, h1, h2⟩ := k x List.mem_cons_self st h
    rw [forC, h1, q_bind_ret]
    cases c with
    | nx st => exact forC_inv I P xs h2 fun y hy => k y (List.mem_cons_of_mem _ hy)
    | bk st => exact ⟨.inr st, rfl, h2⟩
    | rt v => exact ⟨.inl v, rfl, h2⟩
theorem forS_inv {f : α → σ → M S σ} (I : Nat → σ → Prop) : ∀ (xs : List α) {st : σ}, I 0 st → (∀ (i : Nat) x st, xs[i]? = some x → I i st → ∃ st', f x st = M.ret st' ∧ I (i + 1) st') → ∃ st', forS f xs st = M.ret st' ∧ I xs.length st'
  | [], st, h, _ => ⟨st, rfl, h⟩
  | x :: xs, st, h, k => by
    obtain ⟨st1, h1, h2⟩ := k 0 x st rfl h
    obtain ⟨st2, h3, h4⟩ := forS_inv (f := f) (fun i => I (i + 1)) xs h2 fun i y st hy hi => k (i + 1) y st (by simpa using hy) hi
    exact ⟨st2, by rw [forS_cons, h1, q_bind_ret, h3], h4⟩
theorem bind_to {m : M S α} {k : α → M S β} {r : M S β} {P : α → Prop} (h : ∃ a, m = M.ret a ∧ P a) (hk : ∀ a, P a → k a = r) : M.bind m k = r := by
  obtain ⟨a, h, p⟩ := h
  rw [h, q_bind_ret]
  exact hk a p
theorem forC_to {f : α → σ → M S (Ctl ρ σ)} (st : σ) (g : Nat → σ) (xs : List α) (h0 : g 0 = st) (h : ∀ (i : Nat) x, xs[i]? = some x → f x (g i) = M.ret (.nx (g (i + 1)))) : forC f xs st = M.ret (.inr (g xs.length)) := by
  rw [← h0]
  exact forC_thru g xs h
theorem forS_to {f : α → σ → M S σ} (st : σ) (g : Nat → σ) (xs : List α) (h0 : g 0 = st) (h : ∀ (i : Nat) x, xs[i]? = some x → f x (g i) = M.ret (g (i + 1))) : forS f xs st = M.ret (g xs.length) := by
  rw [← h0]
  exact forS_eq g xs h
theorem forS_map {f : β → σ → M S σ} (h : α → β) : ∀ (xs : List α) (st : σ), forS f (xs.map h) st = forS (fun x => f (h x)) xs st
  | [], _ => rfl
  | x :: xs, st => by
    rw [List.map_cons, forS_cons, forS_cons]
    congr 1
    funext st
    exact forS_map h xs st
theorem forC_map {f : β → σ → M S (Ctl ρ σ)} (h : α → β) : ∀ (xs : List α) (st : σ), forC f (xs.map h) st = forC (fun x => f (h x)) xs st
  | [], _ => rfl
  | x :: xs, st => by
    rw [List.map_cons, forC, forC]
    congr 1
    funext c
    cases c with
    | nx st => exact forC_map h xs st
    | bk st => rfl
    | rt v => rfl
theorem compT_map {p : β → M S Bool} {g : β → M S γ} (h : α → β) : ∀ (xs : List α), compT p g (xs.map h) = compT (fun x => p (h x)) (fun x => g (h x)) xs
  | [] => rfl
  | x :: xs => by
    rw [List.map_cons, compT, compT, compT_map h xs]
theorem lcM_mapM {p : β → M S Bool} {g : β → M S γ} (h : α → β) (xs : List α) : lcM p g (xs.map h) = lcM (fun x => p (h x)) (fun x => g (h x)) xs := by
  unfold lcM
  rw [List.length_map, compT_map]
theorem cut_nat (l : List α) (k : Nat) : cutD l none (some (k : Int)) = l.take k := cut_to l k
/-- a nodup list holds no item twice -/
theorem take_not {α : Type} {l : List α} (nd : l.Nodup) {i : Nat} {r : α} (h : l[i]? = some r) : r ∉ l.take i := by
  intro hm
  obtain ⟨j, hj, e⟩ := List.getElem_of_mem hm
  rw [List.length_take] at hj
  rw [List.getElem_take] at e
  have := (List.getElem?_inj (i := j) (j := i) (by omega) nd).mp (by rw [h, List.getElem?_eq_getElem (by omega), e])
  omega
theorem fiT_some [DecidableEq α] {l : List α} {a : α} {j : Nat} (h : l[j]? = some a) (hf : ∀ i, i < j → l[i]? ≠ some a) : fiT l a = some (j : Int) := by
  unfold fiT
  have : l.findIdx? (fun x => decide (x = a)) = some j := by
    rw [List.findIdx?_eq_some_iff_getElem]
    obtain ⟨hj, e⟩ := List.getElem?_eq_some_iff.mp h
    refine ⟨hj, by simpa using e, fun i hi => ?_⟩
    have := hf i hi
    rw [List.getElem?_eq_getElem (by omega)] at this
    simpa using this
  rw [this]
  rfl
theorem fiT_nodup [DecidableEq α] {l : List α} {a : α} {j : Nat} (nd : l.Nodup) (h : l[j]? = some a) : fiT l a = some (j : Int) := fiT_some h fun i hi e => by
  have hl := (List.getElem?_eq_some_iff.mp h).1
  have := (List.getElem?_inj (i := i) (j := j) (by omega) nd).mp (by rw [e, h])
  omega
end
end DD
namespace DD
open PySem
/-- an edge in force: its index, its giver, its taker -/
structure Edge where
  i : Int
  g : Str
  t : Str
  deriving DecidableEq
/-- the names found: the owner ahead -/
def nm (v : Str) (L : List Edge) : List Str := v :: L.map Edge.t
/-- one edge seen from place x; L holds the edges by which names were found -/
def scan1 (v : Str) (x : Str) (L : List Edge) (e : Edge) : List Edge := if e.g = x ∧ e.t ∉ nm v L then L ++ [e] else L
def scan (v : Str) (E : List Edge) (x : Str) (L : List Edge) : List Edge := E.foldl (scan1 v x) L
def bfs (v : Str) (E : List Edge) : Nat → List Edge
  | 0 => []
  | k + 1 => match (nm v (bfs v E k))[k]? with
    | some x => scan v E x (bfs v E k)
    | none => bfs v E k
section
variable {v : Str}
theorem nm_app (L M : List Edge) : nm v (L ++ M) = nm v L ++ M.map Edge.t := by unfold nm; rw [List.map_append]; rfl
theorem scan1_pre (x : Str) (L : List Edge) (e : Edge) : ∃ M, scan1 v x L e = L ++ M := by
  unfold scan1
  by_cases q : e.g = x ∧ e.t ∉ nm v L
  · exact ⟨[e], if_pos q⟩
  · exact ⟨[], by rw [if_neg q, List.append_nil]⟩
theorem scan_pre (E : List Edge) (x : Str) : ∀ L, ∃ M, scan v E x L = L ++ M := by
  induction E with
  | nil => intro L; exact ⟨[], (List.append_nil _).symm⟩
  | cons e E ih =>
    intro L
    obtain ⟨M, h⟩ := scan1_pre x L e
    obtain ⟨N, h'⟩ := ih (scan1 v x L e)
    exact ⟨M ++ N, by show scan v E x (scan1 v x L e) = _; rw [h', h, List.append_assoc]⟩
theorem scan1_nd {x : Str} {L : List Edge} {e : Edge} (h : (nm v L).Nodup) : (nm v (scan1 v x L e)).Nodup := by
  unfold scan1
  by_cases q : e.g = x ∧ e.t ∉ nm v L
  · rw [if_pos q, nm_app, List.nodup_append]
    refine ⟨h, by simp, ?_⟩
    intro a ha b hb
    simp only [List.map_cons, List.map_nil, List.mem_cons, List.not_mem_nil, or_false] at hb
    subst hb
    exact fun hh => q.2 (hh ▸ ha)
  · rw [if_neg q]; exact h
theorem scan_nd {x : Str} : ∀ (E : List Edge) {L : List Edge}, (nm v L).Nodup → (nm v (scan v E x L)).Nodup
  | [], _, h => h
  | e :: E, _, h => scan_nd E (scan1_nd h)
theorem scan_mem {x : Str} {e : Edge} : ∀ (E : List Edge) {L : List Edge}, e ∈ scan v E x L → e ∈ L ∨ (e ∈ E ∧ e.g = x)
  | [], _, h => .inl h
  | d :: E, L, h => by
    rcases scan_mem E (L := scan1 v x L d) h with h | h
    · unfold scan1 at h
      by_cases q : d.g = x ∧ d.t ∉ nm v L
      · rw [if_pos q] at h
        rcases List.mem_append.mp h with h | h
        · exact .inl h
        · simp only [List.mem_cons, List.not_mem_nil, or_false] at h
          subst h
          exact .inr ⟨List.mem_cons_self, q.1⟩
      · rw [if_neg q] at h; exact .inl h
    · exact .inr ⟨List.mem_cons_of_mem _ h.1, h.2⟩
/-- after the scan v each taker from x is found -/
theorem scan_done {x : Str} {e : Edge} : ∀ (E : List Edge) {L : List Edge}, e ∈ E → e.g = x → e.t ∈ nm v (scan v E x L)
  | d :: E, L, h, hx => by
    rcases List.mem_cons.mp h with rfl | h
    · obtain ⟨M, hm⟩ := scan_pre E x (scan1 v x L e)
      show e.t ∈ nm v (scan v E x (scan1 v x L e))
      rw [hm, nm_app]
      refine List.mem_append_left _ ?_
      unfold scan1
      by_cases q : e.g = x ∧ e.t ∉ nm v L
      · rw [if_pos q, nm_app]; simp
      · rw [if_neg q]
        exact Classical.byContradiction fun hh => q ⟨hx, hh⟩
    · exact scan_done E h hx
theorem bfs_nd (E : List Edge) : ∀ k, (nm v (bfs v E k)).Nodup
  | 0 => by simp [bfs, nm]
  | k + 1 => by
    unfold bfs
    cases h : (nm v (bfs v E k))[k]? with
    | none => exact bfs_nd E k
    | some x => exact scan_nd E (bfs_nd E k)
theorem bfs_mem {E : List Edge} {e : Edge} : ∀ k, e ∈ bfs v E k → e ∈ E
  | 0, h => by simp [bfs] at h
  | k + 1, h => by
    unfold bfs at h
    revert h
    cases (nm v (bfs v E k))[k]? with
    | none => exact bfs_mem k
    | some x => exact fun h => (scan_mem E h).elim (bfs_mem k) (·.1)
theorem bfs_pre (E : List Edge) (k : Nat) : ∃ M, bfs v E (k + 1) = bfs v E k ++ M := by
  rw [bfs]
  cases (nm v (bfs v E k))[k]? with
  | none => exact ⟨[], (List.append_nil _).symm⟩
  | some x => exact scan_pre E x _
theorem bfs_add (E : List Edge) (k : Nat) : ∀ n, ∃ M, bfs v E (k + n) = bfs v E k ++ M
  | 0 => ⟨[], (List.append_nil _).symm⟩
  | n + 1 => by
    obtain ⟨M, hm⟩ := bfs_add E k n
    obtain ⟨N, hn⟩ := bfs_pre E (k + n)
    exact ⟨M ++ N, by show bfs v E (k + n + 1) = _; rw [hn, hm, List.append_assoc]⟩
/-- behind the last place nothing moves -/
theorem bfs_stop (E : List Edge) {k : Nat} (h : (nm v (bfs v E k)).length ≤ k) : ∀ n, bfs v E (k + n) = bfs v E k
  | 0 => rfl
  | n + 1 => by
    show bfs v E (k + n + 1) = _
    rw [bfs, bfs_stop E h n, List.getElem?_eq_none (by omega)]
/-- each name at a place that was looked at has its takers found -/
theorem bfs_done {E : List Edge} {e : Edge} {j : Nat} : ∀ k, j < k → (nm v (bfs v E k))[j]? = some e.g → e ∈ E → e.t ∈ nm v (bfs v E k)
  | k + 1, hj, h, he => by
    obtain ⟨M, hm⟩ := bfs_pre E k
    by_cases q : j < (nm v (bfs v E k)).length
    · have h2 : (nm v (bfs v E k))[j]? = some e.g := by rw [hm, nm_app, List.getElem?_append_left q] at h; exact h
      by_cases p : j < k
      · rw [hm, nm_app]; exact List.mem_append_left _ (bfs_done k p h2 he)
      · have : j = k := by omega
        subst this
        rw [bfs, h2]
        exact scan_done E he rfl
    · have z : bfs v E (k + 1) = bfs v E k := by rw [bfs, List.getElem?_eq_none (by omega)]
      rw [z, List.getElem?_eq_none (by omega)] at h
      exact nomatch h
theorem bfs_len (E : List Edge) (k : Nat) : (bfs v E k).length ≤ E.length := by
  have h := bfs_nd (v := v) E k
  unfold nm at h
  have h2 : ((bfs v E k).map Edge.t).Nodup := (List.nodup_cons.mp h).2
  have h3 : (bfs v E k).Nodup := (List.pairwise_map.mp h2).imp fun h e => h (congrArg _ e)
  exact List.Nodup.length_le_of_subset h3 fun e he => bfs_mem k he
theorem nm_len (L : List Edge) : (nm v L).length = L.length + 1 := by unfold nm; rw [List.length_cons, List.length_map]
/-- an edge by which a name was found is the first of its pair -/
theorem scan_first {x : Str} {E0 : List Edge} : ∀ (E D : List Edge) {L : List Edge}, E0 = D ++ E → (∀ d ∈ D, d.g = x → d.t ∈ nm v L) → ∀ e ∈ scan v E x L, e ∈ L ∨ ∃ A B, E0 = A ++ e :: B ∧ ∀ a ∈ A, ¬ (a.g = e.g ∧ a.t = e.t)
  | [], D, L, _, _, e, he => .inl he
  | d :: E, D, L, h0, hD, e, he => by
    have ih := scan_first (E0 := E0) E (D ++ [d]) (L := scan1 v x L d) (by rw [h0]; simp) (fun a ha hx => by
      obtain ⟨M, hm⟩ := scan1_pre x L d
      rcases List.mem_append.mp ha with ha | ha
      · rw [hm, nm_app]; exact List.mem_append_left _ (hD a ha hx)
      · simp only [List.mem_cons, List.not_mem_nil, or_false] at ha
        subst ha
        unfold scan1
        by_cases q : a.g = x ∧ a.t ∉ nm v L
        · rw [if_pos q, nm_app]; simp
        · rw [if_neg q]; exact Classical.byContradiction fun hh => q ⟨hx, hh⟩) e he
    rcases ih with ih | ih
    · unfold scan1 at ih
      by_cases q : d.g = x ∧ d.t ∉ nm v L
      · rw [if_pos q] at ih
        rcases List.mem_append.mp ih with ih | ih
        · exact .inl ih
        · simp only [List.mem_cons, List.not_mem_nil, or_false] at ih
          subst ih
          refine .inr ⟨D, E, h0, fun a ha z => q.2 ?_⟩
          rw [← z.2]
          exact hD a ha (z.1.trans q.1)
      · rw [if_neg q] at ih; exact .inl ih
    · exact .inr ih
theorem bfs_first {E : List Edge} : ∀ k, ∀ e ∈ bfs v E k, ∃ A B, E = A ++ e :: B ∧ ∀ a ∈ A, ¬ (a.g = e.g ∧ a.t = e.t)
  | 0, e, h => by simp [bfs] at h
  | k + 1, e, h => by
    unfold bfs at h
    revert h
    cases (nm v (bfs v E k))[k]? with
    | none => exact bfs_first k e
    | some x => exact fun h => (scan_first E [] rfl (fun d hd => by cases hd) e h).elim (bfs_first k e) id
/-- how names were found, the last edge ahead -/
def Well (v : Str) : List Edge → Prop
  | [] => True
  | e :: R => e.g ∈ nm v R.reverse ∧ e.t ∉ nm v R.reverse ∧ Well v R
theorem scan_well {x : Str} : ∀ (E : List Edge) {L : List Edge}, x ∈ nm v L → Well v L.reverse → Well v (scan v E x L).reverse
  | [], _, _, h => h
  | d :: E, L, hx, h => by
    refine scan_well E (L := scan1 v x L d) ?_ ?_
    · obtain ⟨M, hm⟩ := scan1_pre x L d
      rw [hm, nm_app]; exact List.mem_append_left _ hx
    · unfold scan1
      by_cases q : d.g = x ∧ d.t ∉ nm v L
      · rw [if_pos q, List.reverse_append]
        refine ⟨?_, ?_, h⟩
        · show d.g ∈ nm v (L.reverse).reverse
          rw [List.reverse_reverse, q.1]; exact hx
        · show d.t ∉ nm v (L.reverse).reverse
          rw [List.reverse_reverse]; exact q.2
      · rw [if_neg q]; exact h
theorem bfs_well (E : List Edge) : ∀ k, Well v (bfs v E k).reverse
  | 0 => trivial
  | k + 1 => by
    unfold bfs
    cases h : (nm v (bfs v E k))[k]? with
    | none => exact bfs_well E k
    | some x => exact scan_well E (List.mem_of_getElem? h) (bfs_well E k)
/-- the way to y, over the edges, the last found ahead -/
def way : List Edge → Str → List Edge
  | [], _ => []
  | e :: R, y => if e.t = y then way R e.g ++ [e] else way R y
theorem way_owner : ∀ {R : List Edge}, Well v R → way R v = []
  | [], _ => rfl
  | e :: R, h => by
    have : e.t ≠ v := fun z => h.2.1 (by rw [z]; exact List.mem_cons_self)
    rw [way, if_neg this, way_owner h.2.2]
theorem way_mem : ∀ {R : List Edge} {y : Str} {e : Edge}, e ∈ way R y → e ∈ R
  | d :: R, y, e, h => by
    rw [way] at h
    by_cases q : d.t = y
    · rw [if_pos q] at h
      rcases List.mem_append.mp h with h | h
      · exact List.mem_cons_of_mem _ (way_mem h)
      · simp only [List.mem_cons, List.not_mem_nil, or_false] at h
        subst h; exact List.mem_cons_self
    · rw [if_neg q] at h
      exact List.mem_cons_of_mem _ (way_mem h)
theorem way_step : ∀ {R : List Edge} {e : Edge}, Well v R → e ∈ R → way R e.t = way R e.g ++ [e] ∧ e.g ∈ nm v R.reverse
  | d :: R, e, h, he => by
    have hd : nm v (d :: R).reverse = nm v R.reverse ++ [d.t] := by rw [List.reverse_cons, nm_app]; rfl
    rcases List.mem_cons.mp he with rfl | he
    · have ne : e.t ≠ e.g := fun z => h.2.1 (z ▸ h.1)
      refine ⟨?_, by rw [hd]; exact List.mem_append_left _ h.1⟩
      rw [way, if_pos rfl, way, if_neg ne]
    · obtain ⟨h1, h2⟩ := way_step h.2.2 he
      have n1 : d.t ≠ e.t := fun z => h.2.1 (by
        rw [z]
        exact List.mem_cons_of_mem _ (List.mem_map.mpr ⟨e, List.mem_reverse.mpr he, rfl⟩))
      have n2 : d.t ≠ e.g := fun z => h.2.1 (by rw [z]; exact h2)
      refine ⟨?_, by rw [hd]; exact List.mem_append_left _ h2⟩
      rw [way, if_neg n1, h1, way, if_neg n2]
theorem way_len : ∀ {R : List Edge} {y : Str}, (way R y).length ≤ R.length
  | [], _ => Nat.le_refl _
  | d :: R, y => by
    rw [way]
    by_cases q : d.t = y
    · rw [if_pos q, List.length_append, List.length_cons, List.length_cons, List.length_nil]
      have := way_len (R := R) (y := d.g)
      omega
    · rw [if_neg q, List.length_cons]
      have := way_len (R := R) (y := y)
      omega
/-- a name found: the owner, or by an edge -/
theorem nm_cases {L : List Edge} {y : Str} (h : y ∈ nm v L) : y = v ∨ ∃ e ∈ L, e.t = y := by
  rcases List.mem_cons.mp h with h | h
  · exact .inl h
  · obtain ⟨e, he, rfl⟩ := List.mem_map.mp h
    exact .inr ⟨e, he, rfl⟩
/-! what the search gives -/
structure Bf (v : Str) (E L : List Edge) : Prop where
  eq : ∀ k, L.length + 1 ≤ k → bfs v E k = L
  nd : (nm v L).Nodup
  sub : ∀ e ∈ L, e ∈ E
  well : Well v L.reverse
  first : ∀ e ∈ L, ∃ A B, E = A ++ e :: B ∧ ∀ a ∈ A, ¬ (a.g = e.g ∧ a.t = e.t)
  done : ∀ e ∈ E, e.g ∈ nm v L → e.t ∈ nm v L
  len : L.length ≤ E.length
theorem bf_of (v : Str) (E : List Edge) : ∃ L, Bf v E L := by
  refine ⟨bfs v E (E.length + 1), fun k hk => ?_, bfs_nd E _, fun e => bfs_mem _, bfs_well E _, bfs_first _, fun e he hg => ?_, bfs_len E _⟩
  · have h2 := bfs_len (v := v) E (E.length + 1)
    by_cases q : k ≤ E.length + 1
    · obtain ⟨A, hA⟩ := bfs_add (v := v) E k (E.length + 1 - k)
      rw [show k + (E.length + 1 - k) = E.length + 1 by omega] at hA
      have h3 : (bfs v E k).length ≤ (bfs v E (E.length + 1)).length := by rw [hA, List.length_append]; omega
      have := bfs_stop (v := v) E (k := k) (by rw [nm_len]; omega) (E.length + 1 - k)
      rw [show k + (E.length + 1 - k) = E.length + 1 by omega] at this
      exact this.symm
    · have := bfs_stop (v := v) E (k := E.length + 1) (by rw [nm_len]; omega) (k - (E.length + 1))
      rwa [show E.length + 1 + (k - (E.length + 1)) = k by omega] at this
  · obtain ⟨j, hj⟩ := List.mem_iff_getElem?.mp hg
    have h1 := (List.getElem?_eq_some_iff.mp hj).1
    have h2 := bfs_len (v := v) E (E.length + 1)
    rw [nm_len] at h1
    exact bfs_done _ (by omega) hj he
/-- from v along edges -/
inductive Rc (v : Str) (E : List Edge) : Str → Prop
  | refl : Rc v E v
  | step {e : Edge} : Rc v E e.g → e ∈ E → Rc v E e.t
theorem Bf.rc {v : Str} {E L : List Edge} (B : Bf v E L) (y : Str) : y ∈ nm v L ↔ Rc v E y := by
  constructor
  · have aux : ∀ (R : List Edge), Well v R → (∀ e ∈ R, e ∈ E) → ∀ y ∈ nm v R.reverse, Rc v E y := by
      intro R
      induction R with
      | nil =>
        intro _ _ y hy
        simp only [nm, List.reverse_nil, List.map_nil, List.mem_cons, List.not_mem_nil, or_false] at hy
        rw [hy]
        exact .refl
      | cons e R ih =>
        intro w hs y hy
        rw [List.reverse_cons, nm_app] at hy
        rcases List.mem_append.mp hy with hy | hy
        · exact ih w.2.2 (fun a ha => hs a (List.mem_cons_of_mem _ ha)) y hy
        · simp only [List.map_cons, List.map_nil, List.mem_cons, List.not_mem_nil, or_false] at hy
          rw [hy]
          exact .step (ih w.2.2 (fun a ha => hs a (List.mem_cons_of_mem _ ha)) _ w.1) (hs e List.mem_cons_self)
    intro hy
    refine aux L.reverse B.well (fun e he => B.sub e (List.mem_reverse.mp he)) y ?_
    rw [List.reverse_reverse]
    exact hy
  · intro h
    induction h with
    | refl => exact List.mem_cons_self
    | step _ he ih => exact B.done _ he ih
end
end DD
namespace DD
open PySem PySem.Spec PyProof.Rows L2
section
variable {S ρ γ T : Type} {G : Gm} {i : Addr × Addr} {n k : Nat} {rest : En (S × TI2) Fl} {R : Fl → γ → Prop} {er : ρ → D}
theorem pv_neg {m : En S D} {v : Int} (h : PV G m v D.int) : PV G (eOp1 dNeg m) (-v) D.int := fun env k => by
  unfold eOp1
  rw [h env k]
  rfl
/-- a world let go -/
def exitT (t : M (S × T) ρ) (t0 : T) : M S ρ := fun s => match t (s, t0) with
  | .ok v st => .ok v st.1
  | _ => .bad
def clrG (G : Gm) : Gm := G.map (Option.map clr1)
theorem Kn.clr : ∀ {G : Gm} {env : List Sl}, Kn G env → Kn (clrG G) (DD.clr env)
  | [], [], _ => trivial
  | [], _ :: _, h => h.elim
  | _ :: _, [], h => h.elim
  | o :: G, y :: env, h => by
    refine ⟨?_, Kn.clr h.2⟩
    cases o with
    | none => trivial
    | some x =>
      have : y = x := h.1
      subst this
      rfl
def addT1 (k : Int) : M (S × TI2) Unit := fun s => if s.2.1.length < 4000 then .ok () (s.1, (addI s.2.1 k, s.2.2)) else .bad
def addT2 (k : Int) : M (S × TI2) Unit := fun s => if s.2.2.length < 4000 then .ok () (s.1, (s.2.1, addI s.2.2 k)) else .bad
def sortT : M (S × TI2) (List Int) := fun s => if s.2.1.length < 64 then .ok (sortI s.2.1) s else .bad
def ninT (k : Int) : M (S × TI2) Bool := fun s => .ok (!decide (k ∈ s.2.2)) s
theorem ts_addX {me : En (S × TI2) D} {v : Int} {w : V} {u : M (S × TI2) Unit} {t : M (S × TI2) γ} (g : gtG G n = some (.fz (.opq w))) (h : PV G me v D.int) (hw : w = .ref i.1 ∨ w = .ref i.2)
    (hu : ∀ env, Ref (fun fl _ => fl = .nx env) (addO i w v env) u) (hk : TS G rest t R) : TS G (sSeq (sAddO i n me) rest) (M.bind u fun _ => t) R := fun env q => by
  rw [q_sSeq]
  have e : sAddO i n me env = addO i w v env := by
    unfold sAddO
    rw [q.get g]
    dsimp only
    rw [if_pos hw, h env q]
    rfl
  rw [e]
  refine Ref.bind (hu env) fun fl _ z => ?_
  subst z
  exact hk env q
theorem ts_add1 {me : En (S × TI2) D} {v : Int} {t : M (S × TI2) γ} (g : gtG G n = some (.fz (eJ i.1 ()))) (h : PV G me v D.int) (hk : TS G rest t R) : TS G (sSeq (sAddO i n me) rest) (M.bind (addT1 v) fun _ => t) R :=
  ts_addX g h (.inl rfl) (fun env s => by
    unfold addT1 addO
    rw [if_pos rfl]
    by_cases c : s.2.1.length < 4000
    · rw [if_pos c, if_pos c]; exact ⟨_, rfl, rfl⟩
    · rw [if_neg c]; trivial) hk
theorem ts_add2 (ne : i.1 ≠ i.2) {me : En (S × TI2) D} {v : Int} {t : M (S × TI2) γ} (g : gtG G n = some (.fz (eJ i.2 ()))) (h : PV G me v D.int) (hk : TS G rest t R) : TS G (sSeq (sAddO i n me) rest) (M.bind (addT2 v) fun _ => t) R :=
  ts_addX g h (.inr rfl) (fun env s => by
    unfold addT2 addO
    have nv : ¬ (V.ref i.2 = V.ref i.1) := fun z => ne (by injection z with z; exact z.symm)
    rw [if_neg nv, if_pos rfl]
    by_cases c : s.2.2.length < 4000
    · rw [if_pos c, if_pos c]; exact ⟨_, rfl, rfl⟩
    · rw [if_neg c]; trivial) hk
theorem te_sortO {me : En (S × TI2) D} (h : PV G me () (eJ i.1)) : TE G (eSortO i me) sortT (eL D.int) := fun env q s => by
  have e0 : eSortO i me env = sortO i (.opq (.ref i.1)) := by
    unfold eSortO
    rw [h env q]
    rfl
  rw [e0]
  by_cases c : s.2.1.length < 64
  · have e1 : (sortT s : Out (S × TI2) (List Int)) = .ok (sortI s.2.1) s := by unfold sortT; rw [if_pos c]
    rw [e1]
    refine ⟨eL D.int (sortI s.2.1), ?_, rfl⟩
    unfold sortO
    dsimp only
    rw [if_pos rfl, if_pos c]
    rfl
  · have e1 : (sortT s : Out (S × TI2) (List Int)) = .bad := by unfold sortT; rw [if_neg c]
    rw [e1]
    trivial
theorem tt_nin2 (ne : i.1 ≠ i.2) {me : En (S × TI2) D} {v : Int} (g : gtG G n = some (.fz (eJ i.2 ()))) (h : PV G me v D.int) : TTb G (tNotInO i n me) (ninT v) := fun env q s => by
  have e : tNotInO i n me env = notInO i (.ref i.2) v := by
    unfold tNotInO
    rw [h env q, q_bind_ret]
    dsimp only
    rw [q.get g]
    rfl
  rw [e]
  show ∃ b, notInO i (.ref i.2) v s = .ok b s ∧ b = _
  unfold notInO
  rw [if_neg (fun z => ne (by injection z with z; exact z.symm)), if_pos rfl]
  exact ⟨_, rfl, rfl⟩
theorem ts_sets {m : Addr × Addr → En (S × TI2) Fl} {t : M (S × TI2) ρ} (hn : ∀ v, er v ≠ .non) (h : ∀ i : Addr × Addr, i.1 ≠ i.2 → TS (stG (stG (clrG G) n (some (.fz (eJ i.1 ())))) k (some (.fz (eJ i.2 ())))) (m i) t (RT er)) :
    TS G (sSets n k m) (exitT t ([], [])) (RT er) := fun env q s => by
  unfold exitT
  cases e : t (s, ([], [])) with
  | bad => trivial
  | ex c fs st => trivial
  | ok v st =>
    refine ⟨.rt (er v), ?_, .inl rfl⟩
    unfold sSets
    refine pick_eq ⟨(0, 1), by decide⟩ fun i => ?_
    have := h i.1 i.2 _ (Kn.set (Kn.set q.clr)) (s, ([], []))
    rw [e] at this
    obtain ⟨b, hb, z⟩ := this
    unfold exitM
    have hb : m i.1 (((DD.clr env).set n (.fz (.opq (.ref i.1.1)))).set k (.fz (.opq (.ref i.1.2)))) (s, ([], [])) = .ok b st := hb
    rw [hb]
    rcases z with rfl | ⟨_, _, z⟩
    · rfl
    · exact (hn v z).elim
end
end DD
namespace DD
open PySem PySem.Spec PyProof.Rows L2
section
variable {S α β ρ γ : Type} {G : Gm} {n : Nat} {R : Fl → γ → Prop} {mi : En S (List D)} {mr : En S (List D)} {ma mb me : En S D}
/-! range(i, j, -1) -/
def dnL (lo : Int) (n : Nat) : List Int := (List.range n).map fun i => lo - (i : Nat)
theorem dnD_map (lo : Int) (n : Nat) : dnD lo n = (dnL lo n).map D.int := by unfold dnD dnL; rw [List.map_map]; rfl
def rng3 (i j : Int) : M S (List Int) := if i.natAbs ≤ 16777216 ∧ j.natAbs ≤ 16777216 then M.ret (dnL i (i - j).toNat) else M.fail
theorem ti_rng3p {i j : Int} (h : PVs G mr [.int i, .int j, .int (-1)]) : TI G (iOf dRng3 mr) (rng3 i j) D.int := fun env k => by
  rw [q_iOf, h env k, q_bind_ret, q_kOf]
  unfold rng3 dRng3
  dsimp only
  by_cases c : i.natAbs ≤ 16777216 ∧ j.natAbs ≤ 16777216
  · rw [if_pos c, if_pos ⟨rfl, c⟩, dnD_map]; exact Ref.ret rfl
  · rw [if_neg c]; exact Ref.fail
/-! [..] * k -/
def repM (l : List Int) (k : Int) : M S (List Int) := if 0 ≤ k ∧ k.toNat ≤ 1000000 ∧ l.length ≤ 16 then M.ret (List.replicate k.toNat l).flatten else M.fail
theorem te_repL {l : List Int} {k : Int} (ha : PV G ma l (eL D.int)) (hb : PV G mb k D.int) : TE G (eRepL ma mb) (repM l k) (eL D.int) := fun env q => by
  unfold eRepL
  rw [ha env q, q_bind_ret]
  unfold eL
  dsimp only
  rw [hb env q, q_bind_ret]
  dsimp only
  unfold repM
  by_cases c : 0 ≤ k ∧ k.toNat ≤ 1000000 ∧ l.length ≤ 16
  · rw [if_pos c, if_pos (by rw [List.length_map]; exact c)]
    refine Ref.ret ?_
    show D.lst _ = D.lst _
    rw [List.map_flatten, List.map_replicate]
  · rw [if_neg c]; exact Ref.fail
theorem pv_addI {a b : Int} (ha : PV G ma a D.int) (hb : PV G mb b D.int) : PV G (eOp2 dAdd ma mb) (a + b) D.int := fun env q => by
  rw [q_eOp2, ha env q, q_bind_ret, q_kOp2a, hb env q]
  rfl
theorem pv_subI {a b : Int} (ha : PV G ma a D.int) (hb : PV G mb b D.int) : PV G (eOp2 dSub ma mb) (a - b) D.int := fun env q => by
  rw [q_eOp2, ha env q, q_bind_ret, q_kOp2a, hb env q]
  rfl
theorem rf_catL2 {e : α → D} {l r : List α} : Ref (RD (eL e)) (M.ofO (dCatL (eL e l) (eL e r)) : M S D) (catM l r) := by
  unfold catM
  by_cases c : l.length + r.length ≤ 16777216
  · rw [if_pos c]
    have : dCatL (eL e l) (eL e r) = some (eL e (l ++ r)) := by
      unfold dCatL eL
      dsimp only
      rw [if_pos (by rw [List.length_map, List.length_map]; exact c), List.map_append]
    rw [this]
    exact Ref.ret rfl
  · rw [if_neg c]; exact Ref.fail
/-! (..) * k -/
def repTM (l : List α) (k : Int) : M S (List α) := if 0 < l.length ∧ 1 < k.toNat ∧ k.toNat < 1001 ∧ l.length < 1001 then M.ret (List.replicate k.toNat l).flatten else M.fail
theorem rf_repT {e : α → D} {l : List α} {k : Int} : Ref (RD (eT e)) (M.ofO (dMulT (eT e l) (.int k)) : M S D) (repTM l k) := by
  unfold repTM
  by_cases c : 0 < l.length ∧ 1 < k.toNat ∧ k.toNat < 1001 ∧ l.length < 1001
  · rw [if_pos c]
    have : dMulT (eT e l) (.int k) = some (eT e (List.replicate k.toNat l).flatten) := by
      unfold dMulT eT
      dsimp only
      rw [if_pos (by rw [List.length_map]; exact c), List.map_flatten, List.map_replicate]
    rw [this]
    exact Ref.ret rfl
  · rw [if_neg c]; exact Ref.fail
/-! the table -/
variable {i : Pl} {rest : En (S × TT2) Fl}
def tabG (j k : Int) : M (S × TT2) Int := fun s => match atI s.2 j with
  | some r => match atI r k with
    | some c => .ok c s
    | none => .bad
  | none => .bad
def tabP (j l c : Int) : M (S × TT2) Unit := fun s => match ixN s.2.length j with
  | some k => match s.2[k]? with
    | some r => match ixN r.length l with
      | some q => .ok () (s.1, s.2.set k (r.set q c))
      | none => .bad
    | none => .bad
  | none => .bad
theorem chk_at {s : S × TT2} {j : Int} {r : List Int} (h : atI s.2 j = some r) : (ixN s.2.length j).isSome = true := by
  unfold atI at h
  cases e : ixN s.2.length j with
  | none => rw [e] at h; cases h
  | some k => rfl
theorem te_tab2 {m1 m2 : En (S × TT2) D} {j k : Int} (g : gtG G n = some (.fz (eJ i.1 ()))) (h1 : PV G m1 j D.int) (h2 : PV G m2 k D.int) : TE G (eTab2 i n m1 m2) (tabG j k) D.int := fun env q s => by
  have e0 : eTab2 i n m1 m2 env = M.bind (chkT (.int j)) fun _ => getT (.int j) (.int k) := by
    unfold eTab2
    rw [if_pos (show isTab i n env from q.get g), h1 env q, q_bind_ret]
    congr 1
    funext _
    rw [h2 env q, q_bind_ret]
  rw [e0]
  cases ea : atI s.2 j with
  | none =>
    have : (tabG j k s : Out (S × TT2) Int) = .bad := by unfold tabG; rw [ea]
    rw [this]; trivial
  | some r =>
    cases eb : atI r k with
    | none =>
      have : (tabG j k s : Out (S × TT2) Int) = .bad := by unfold tabG; rw [ea]; dsimp only; rw [eb]
      rw [this]; trivial
    | some c =>
      have : (tabG j k s : Out (S × TT2) Int) = .ok c s := by unfold tabG; rw [ea]; dsimp only; rw [eb]
      rw [this]
      refine ⟨D.int c, ?_, rfl⟩
      rw [bnd_ok (show chkT (.int j) s = .ok () s from if_pos (chk_at ea))]
      unfold getT
      dsimp only
      rw [ea]
      dsimp only
      rw [eb]
theorem ts_tab2 {me m1 m2 : En (S × TT2) D} {u : M (S × TT2) Int} {j l : Int} {t : M (S × TT2) γ} (g : gtG G n = some (.fz (eJ i.1 ()))) (he : TE G me u D.int) (h1 : PV G m1 j D.int) (h2 : PV G m2 l D.int) (hk : TS G rest t R) :
    TS G (sSeq (sTab2 i n me m1 m2) rest) (M.bind (M.bind u fun c => tabP j l c) fun _ => t) R := fun env q => by
  rw [q_sSeq]
  have e0 : sTab2 i n me m1 m2 env = M.bind (me env) fun d => M.bind (chkT (.int j)) fun _ => putTb (.int j) (.int l) d env := by
    unfold sTab2
    rw [if_pos (show isTab i n env from q.get g)]
    congr 1
    funext d
    rw [h1 env q, q_bind_ret]
    congr 1
    funext _
    rw [h2 env q, q_bind_ret]
  rw [e0]
  refine Ref.bind (R := fun fl (_ : Unit) => fl = .nx env) (Ref.bind (he env q) fun d c z => ?_) fun fl _ z => ?_
  · have z : d = .int c := z
    subst z
    intro s
    unfold tabP
    cases e1 : ixN s.2.length j with
    | none => trivial
    | some k =>
      dsimp only
      cases e2 : s.2[k]? with
      | none => trivial
      | some r =>
        dsimp only
        cases e3 : ixN r.length l with
        | none => trivial
        | some p =>
          refine ⟨.nx env, ?_, rfl⟩
          rw [bnd_ok (show chkT (.int j) s = .ok () s from if_pos (by rw [e1]; rfl))]
          unfold putTb
          dsimp only
          rw [e1]
          dsimp only
          rw [e2]
          dsimp only
          rw [e3]
  · subst z
    exact hk env q
/-- the table made, changed, handed back -/
def tabX (t : M (S × TT2) Unit) (t0 : TT2) : M S TT2 := fun s => match t (s, t0) with
  | .ok _ st => .ok st.2 st.1
  | _ => .bad
theorem rowsOf_map : ∀ t : TT2, rowsOf (t.map (eL D.int)) = some t
  | [] => rfl
  | r :: t => by
    have h1 : rowOf (eL D.int r) = some r := go_map r
    show (match rowOf (eL D.int r) with | some r => (rowsOf (t.map (eL D.int))).map (r :: ·) | none => none) = _
    rw [h1]
    dsimp only
    rw [rowsOf_map t]
    rfl
theorem ts_tabs {al vs : List Nat} {tg : D → List Sl → Option (List Sl)} {e : α → D} {Gb : α → Gm} {tx : M S (List α)} {g : α → M S (List Int)} {m : Pl → En (S × TT2) Fl} {t : M (S × TT2) Unit} (hi : TI G mi tx e) (hg : ∀ a, TG tg (e a) (wipG (rdoG al 0 G) vs) (Gb a)) (he : ∀ a, TE (Gb a) me (g a) (eL D.int))
    (h : ∀ i : Pl, TS (stG (clrG G) n (some (.fz (eJ i.1 ())))) (m i) t (RT (eJ i.1))) :
    TS G (sTabs n al vs mi tg me m) (M.bind (DD.noex tx) fun xs => M.bind (lcM (fun _ => M.ret true) g xs) fun t0 => tabX t t0) (RT (eL (eL D.int))) := fun env q => by
  unfold sTabs
  refine Ref.bind (Ref.noex (hi env q)) fun ds xs z => ?_
  rw [show ds = xs.map e from z]
  unfold lcM
  by_cases c : xs.length ≤ 16777216
  · rw [if_pos c, if_pos (by rw [List.length_map]; exact c)]
    refine Ref.bind (comp_ref (ea := eL D.int) hg (fun a => tt_p pt_yes) he _ (Kn.wipe q.rdo vs) xs) fun ds r z => ?_
    rw [show ds = r.map (eL D.int) from z, rowsOf_map]
    intro s
    unfold tabX
    cases et : t (s, r) with
    | bad => trivial
    | ex c fs st => trivial
    | ok v st =>
      refine ⟨.rt (eL (eL D.int) st.2), pick_eq (0, []) fun i => ?_, .inl rfl⟩
      have := h i _ (Kn.set q.clr) (s, r)
      rw [et] at this
      obtain ⟨b, hb, z⟩ := this
      have hb : m i ((DD.clr env).set n (.fz (.opq (.ref i.1)))) (s, r) = .ok b st := hb
      unfold exitM
      rw [hb]
      rcases z with rfl | ⟨_, _, z⟩
      · have : outT i (eJ i.1 v) st.2 = some (.lst (st.2.map fun r => .lst (r.map D.int))) := if_pos rfl
        dsimp only
        rw [this]
        rfl
      · cases z
  · rw [if_neg c]; exact Ref.fail
end
end DD
namespace HD
open PySem PySem.Spec PyProof.Rows L2 DD
noncomputable section
def top (i : Nat) : Stmt := PySem.Challenge.pw_wreckfloor_k74_merge_for.main.body.getD i (.Pass ⟨0, 0, 0, 0⟩)
def dd (n : Str) (i : Nat) : He.DefD := ⟨(n, none), n, n, defArgs (top i), defBody (top i), defScope (top i), [], []⟩
def dm (c q : Str) (i j : Nat) : He.DefD := ⟨(c, some "__init__"), "__init__", q, defArgs (inClass (top i) j), defBody (inClass (top i) j), defScope (inClass (top i) j), [], []⟩
def fn : List He.DefD := [dd "check_text" 6, dd "check_three" 7, dd "most_pairs" 8, dd "pairs_between" 9, dd "kept_rows" 10, dd "kept_lines" 11, dd "stretches" 12, dd "merged_part" 13, dd "joined" 14, dd "merge" 15, dd "merge_for" 16, dd "_law_jar" 18, dd "_law_take" 19, dd "_law_pick" 20, dd "_law_same" 21, dd "_law_table" 22, dd "_law_align" 23, dd "_law_lines" 24, dd "_law_edit" 25, dd "_law_kept" 26, dd "_law_parts" 27, dd "_law_clash" 28, dd "_law_chosen" 29, dd "_law_merged" 30, dd "_law_refused" 31, dd "law" 32, dm "BadRow" "BadRow.__init__" 2 0, dm "TooMany" "TooMany.__init__" 3 0]
def fa : List He.Fa := [.glo "check_text", .glo "check_three", .glo "most_pairs", .glo "pairs_between", .glo "kept_rows", .glo "kept_lines", .glo "stretches", .glo "merged_part", .glo "joined", .glo "merge", .glo "merge_for", .glo "_law_jar", .glo "_law_take", .glo "_law_pick", .glo "_law_same", .glo "_law_table", .glo "_law_align", .glo "_law_lines", .glo "_law_edit", .glo "_law_kept", .glo "_law_parts", .glo "_law_clash", .glo "_law_chosen", .glo "_law_merged", .glo "_law_refused", .glo "law", .glo "WreckError", .glo "BadRow", .glo "TooMany", .int "MOST_LINES" 20, .free "ValueError", .free "bool", .free "enumerate", .free "int", .free "isinstance", .free "len", .free "list", .free "max", .free "range", .free "str", .free "sum", .free "tuple"]
abbrev R : PySem.W.OpenRow := PySem.W.OpenLaw.row PySem.Challenge.rw_wreckfloor_k74_merge_for
def ex (K : PySem.W.Frag) : Bool := xcB K "BadRow" ["table", "index"] && xcB K "TooMany" ["what", "limit"] && neB K "TooMany" "BadRow"
abbrev hk : PySem.W.Hook := He.hookX 5 fa fn [] [] ex
def ob (s : PySem.W.SharedT) : He.AlX := He.obsX 5 fa fn [] [] ex (HandSHeadRun.getT s)
theorem ob_eq (s : PySem.W.SharedT) : ob s = hk.obs s.abs := He.obsX_eq (HandSHeadRun.getT_eq s)
def loose : List Str := (["__name__", "WreckError", "BadRow", "TooMany", "MOST_LINES", "check_text", "check_three", "most_pairs", "pairs_between", "kept_rows", "kept_lines", "stretches", "merged_part", "joined", "merge", "merge_for", "_law_jar", "_law_take", "_law_pick", "_law_same", "_law_table", "_law_align", "_law_lines", "_law_edit", "_law_kept", "_law_parts", "_law_clash", "_law_chosen", "_law_merged", "_law_refused"] : List Str)
theorem run (w : World) : HandSHeadRun.RunEq R (PySem.W.view R.prog [32]) hk ob 4000 loose w := by
  intro os
  kernel_rfl
structure HF (K : PySem.W.Frag) (mg : Str → Option Value) (base : Heap) : Prop where
  kin : K.In base
  ns : base.Ns mainGlobals mg
  c : He.SaysD fa fn K
  more : ex K = true
section
variable {P : Program} {w : World} {K : PySem.W.Frag} {mg : Str → Option Value} {base : Heap}
theorem m_check_text' (G : HF K mg base) : mg "check_text" = some (.ref (He.ga K "check_text")) := He.glo_ok G.kin G.ns (G.c.fact 0 (f := .glo "check_text") rfl)
theorem m_check_three' (G : HF K mg base) : mg "check_three" = some (.ref (He.ga K "check_three")) := He.glo_ok G.kin G.ns (G.c.fact 1 (f := .glo "check_three") rfl)
theorem m_most_pairs' (G : HF K mg base) : mg "most_pairs" = some (.ref (He.ga K "most_pairs")) := He.glo_ok G.kin G.ns (G.c.fact 2 (f := .glo "most_pairs") rfl)
theorem m_pairs_between' (G : HF K mg base) : mg "pairs_between" = some (.ref (He.ga K "pairs_between")) := He.glo_ok G.kin G.ns (G.c.fact 3 (f := .glo "pairs_between") rfl)
theorem m_kept_rows' (G : HF K mg base) : mg "kept_rows" = some (.ref (He.ga K "kept_rows")) := He.glo_ok G.kin G.ns (G.c.fact 4 (f := .glo "kept_rows") rfl)
theorem m_kept_lines' (G : HF K mg base) : mg "kept_lines" = some (.ref (He.ga K "kept_lines")) := He.glo_ok G.kin G.ns (G.c.fact 5 (f := .glo "kept_lines") rfl)
theorem m_stretches' (G : HF K mg base) : mg "stretches" = some (.ref (He.ga K "stretches")) := He.glo_ok G.kin G.ns (G.c.fact 6 (f := .glo "stretches") rfl)
theorem m_merged_part' (G : HF K mg base) : mg "merged_part" = some (.ref (He.ga K "merged_part")) := He.glo_ok G.kin G.ns (G.c.fact 7 (f := .glo "merged_part") rfl)
theorem m_joined' (G : HF K mg base) : mg "joined" = some (.ref (He.ga K "joined")) := He.glo_ok G.kin G.ns (G.c.fact 8 (f := .glo "joined") rfl)
theorem m_merge' (G : HF K mg base) : mg "merge" = some (.ref (He.ga K "merge")) := He.glo_ok G.kin G.ns (G.c.fact 9 (f := .glo "merge") rfl)
theorem m_merge_for' (G : HF K mg base) : mg "merge_for" = some (.ref (He.ga K "merge_for")) := He.glo_ok G.kin G.ns (G.c.fact 10 (f := .glo "merge_for") rfl)
theorem m__law_jar' (G : HF K mg base) : mg "_law_jar" = some (.ref (He.ga K "_law_jar")) := He.glo_ok G.kin G.ns (G.c.fact 11 (f := .glo "_law_jar") rfl)
theorem m__law_take' (G : HF K mg base) : mg "_law_take" = some (.ref (He.ga K "_law_take")) := He.glo_ok G.kin G.ns (G.c.fact 12 (f := .glo "_law_take") rfl)
theorem m__law_pick' (G : HF K mg base) : mg "_law_pick" = some (.ref (He.ga K "_law_pick")) := He.glo_ok G.kin G.ns (G.c.fact 13 (f := .glo "_law_pick") rfl)
theorem m__law_same' (G : HF K mg base) : mg "_law_same" = some (.ref (He.ga K "_law_same")) := He.glo_ok G.kin G.ns (G.c.fact 14 (f := .glo "_law_same") rfl)
theorem m__law_table' (G : HF K mg base) : mg "_law_table" = some (.ref (He.ga K "_law_table")) := He.glo_ok G.kin G.ns (G.c.fact 15 (f := .glo "_law_table") rfl)
theorem m__law_align' (G : HF K mg base) : mg "_law_align" = some (.ref (He.ga K "_law_align")) := He.glo_ok G.kin G.ns (G.c.fact 16 (f := .glo "_law_align") rfl)
theorem m__law_lines' (G : HF K mg base) : mg "_law_lines" = some (.ref (He.ga K "_law_lines")) := He.glo_ok G.kin G.ns (G.c.fact 17 (f := .glo "_law_lines") rfl)
theorem m__law_edit' (G : HF K mg base) : mg "_law_edit" = some (.ref (He.ga K "_law_edit")) := He.glo_ok G.kin G.ns (G.c.fact 18 (f := .glo "_law_edit") rfl)
theorem m__law_kept' (G : HF K mg base) : mg "_law_kept" = some (.ref (He.ga K "_law_kept")) := He.glo_ok G.kin G.ns (G.c.fact 19 (f := .glo "_law_kept") rfl)
theorem m__law_parts' (G : HF K mg base) : mg "_law_parts" = some (.ref (He.ga K "_law_parts")) := He.glo_ok G.kin G.ns (G.c.fact 20 (f := .glo "_law_parts") rfl)
theorem m__law_clash' (G : HF K mg base) : mg "_law_clash" = some (.ref (He.ga K "_law_clash")) := He.glo_ok G.kin G.ns (G.c.fact 21 (f := .glo "_law_clash") rfl)
theorem m__law_chosen' (G : HF K mg base) : mg "_law_chosen" = some (.ref (He.ga K "_law_chosen")) := He.glo_ok G.kin G.ns (G.c.fact 22 (f := .glo "_law_chosen") rfl)
theorem m__law_merged' (G : HF K mg base) : mg "_law_merged" = some (.ref (He.ga K "_law_merged")) := He.glo_ok G.kin G.ns (G.c.fact 23 (f := .glo "_law_merged") rfl)
theorem m__law_refused' (G : HF K mg base) : mg "_law_refused" = some (.ref (He.ga K "_law_refused")) := He.glo_ok G.kin G.ns (G.c.fact 24 (f := .glo "_law_refused") rfl)
theorem m_law' (G : HF K mg base) : mg "law" = some (.ref (He.ga K "law")) := He.glo_ok G.kin G.ns (G.c.fact 25 (f := .glo "law") rfl)
theorem m_WreckError' (G : HF K mg base) : mg "WreckError" = some (.ref (He.ga K "WreckError")) := He.glo_ok G.kin G.ns (G.c.fact 26 (f := .glo "WreckError") rfl)
theorem m_BadRow' (G : HF K mg base) : mg "BadRow" = some (.ref (He.ga K "BadRow")) := He.glo_ok G.kin G.ns (G.c.fact 27 (f := .glo "BadRow") rfl)
theorem m_TooMany' (G : HF K mg base) : mg "TooMany" = some (.ref (He.ga K "TooMany")) := He.glo_ok G.kin G.ns (G.c.fact 28 (f := .glo "TooMany") rfl)
theorem g_MOST_LINES (G : HF K mg base) : ∃ t, mg "MOST_LINES" = some (.int 20 t) := He.int_ok G.kin G.ns (G.c.fact 29 (f := .int "MOST_LINES" 20) rfl)
theorem b_ValueError (G : HF K mg base) : mg "ValueError" = none := He.free_ok G.kin G.ns (G.c.fact 30 (f := .free "ValueError") rfl)
theorem b_bool (G : HF K mg base) : mg "bool" = none := He.free_ok G.kin G.ns (G.c.fact 31 (f := .free "bool") rfl)
theorem b_enumerate (G : HF K mg base) : mg "enumerate" = none := He.free_ok G.kin G.ns (G.c.fact 32 (f := .free "enumerate") rfl)
theorem b_int (G : HF K mg base) : mg "int" = none := He.free_ok G.kin G.ns (G.c.fact 33 (f := .free "int") rfl)
theorem b_isinstance (G : HF K mg base) : mg "isinstance" = none := He.free_ok G.kin G.ns (G.c.fact 34 (f := .free "isinstance") rfl)
theorem b_len (G : HF K mg base) : mg "len" = none := He.free_ok G.kin G.ns (G.c.fact 35 (f := .free "len") rfl)
theorem b_list (G : HF K mg base) : mg "list" = none := He.free_ok G.kin G.ns (G.c.fact 36 (f := .free "list") rfl)
theorem b_max (G : HF K mg base) : mg "max" = none := He.free_ok G.kin G.ns (G.c.fact 37 (f := .free "max") rfl)
theorem b_range (G : HF K mg base) : mg "range" = none := He.free_ok G.kin G.ns (G.c.fact 38 (f := .free "range") rfl)
theorem b_str (G : HF K mg base) : mg "str" = none := He.free_ok G.kin G.ns (G.c.fact 39 (f := .free "str") rfl)
theorem b_sum (G : HF K mg base) : mg "sum" = none := He.free_ok G.kin G.ns (G.c.fact 40 (f := .free "sum") rfl)
theorem b_tuple (G : HF K mg base) : mg "tuple" = none := He.free_ok G.kin G.ns (G.c.fact 41 (f := .free "tuple") rfl)
theorem e_BadRow (G : HF K mg base) : xcB K "BadRow" ["table", "index"] = true := (He.ba (He.ba G.more).1).1
theorem sx_BadRow : FnScope ["self", "table", "index"] ["self", "table", "index"] (defScope (inClass (top 2) 0)) := ⟨rfl, rfl, rfl, by decide +kernel, rfl, by decide +kernel, by decide +kernel⟩
theorem x_BadRow (G : HF K mg base) : XcD ⟨P, w, K, mg⟩ base 1 "BadRow" ["table", "index"] := by
  obtain ⟨fd, F⟩ := G.c.def_ 26 (d := dm "BadRow" "BadRow.__init__" 2 0) rfl
  have e := xcB_ok (e_BadRow G)
  exact xcD2 F sx_BadRow rfl (fun _ _ _ _ _ _ us hl => match us, hl with | [_, _, _], _ => rfl) e.oex e.ini e.fn (m_BadRow' G) (e.no 0) (e.no 1) fun cdv A outer s H E => pss_cons (ps_ost (L2.pv 0) (L2.pv 1)) (pss_one (ps_ost (L2.pv 0) (L2.pv 2)))
theorem t_BadRow (G : HF K mg base) : XfD ⟨P, w, K, mg⟩ "BadRow" ["table", "index"] := (xcB_ok (e_BadRow G)).xf (m_BadRow' G)
theorem e_TooMany (G : HF K mg base) : xcB K "TooMany" ["what", "limit"] = true := (He.ba (He.ba G.more).1).2
theorem sx_TooMany : FnScope ["self", "what", "limit"] ["self", "what", "limit"] (defScope (inClass (top 3) 0)) := ⟨rfl, rfl, rfl, by decide +kernel, rfl, by decide +kernel, by decide +kernel⟩
theorem x_TooMany (G : HF K mg base) : XcD ⟨P, w, K, mg⟩ base 1 "TooMany" ["what", "limit"] := by
  obtain ⟨fd, F⟩ := G.c.def_ 27 (d := dm "TooMany" "TooMany.__init__" 3 0) rfl
  have e := xcB_ok (e_TooMany G)
  exact xcD2 F sx_TooMany rfl (fun _ _ _ _ _ _ us hl => match us, hl with | [_, _, _], _ => rfl) e.oex e.ini e.fn (m_TooMany' G) (e.no 0) (e.no 1) fun cdv A outer s H E => pss_cons (ps_ost (L2.pv 0) (L2.pv 1)) (pss_one (ps_ost (L2.pv 0) (L2.pv 2)))
theorem t_TooMany (G : HF K mg base) : XfD ⟨P, w, K, mg⟩ "TooMany" ["what", "limit"] := (xcB_ok (e_TooMany G)).xf (m_TooMany' G)
theorem n_TooMany_BadRow (G : HF K mg base) : NeD ⟨P, w, K, mg⟩ "TooMany" "BadRow" := neB_ok (He.ba G.more).2 (m_TooMany' G) (m_BadRow' G)
theorem s_check_text : FnScope ["table", "lines", "index", "line"] ["table", "lines"] (defScope (top 6)) := ⟨rfl, rfl, rfl, by decide +kernel, rfl, by decide +kernel, by decide +kernel⟩
def m_check_text : En JS Fl :=
  (sSeq (sIf (tNot1 (tVal (eCB dIsi (aCons (eVarF 1) (aCons (eC (.opq (.ty "tuple"))) aNil))))) (sRaise "BadRow" ["table", "index"] (aCons (eVarF 0) (aCons (eOp1 dNeg (eC (.int 1))) aNil))) sNext)
  (sSeq (sIf (tVal (eOp2 dGt (eCB dLen (aCons (eVarF 1) aNil)) (eC (.int 20)))) (sRaise "TooMany" ["what", "limit"] (aCons (eVarF 0) (aCons (eC (.int 20)) aNil))) sNext)
  (sFor [] (iEnum (aCons (eVarF 1) aNil)) (tgTup 2 (tgCons (tgN 2) (tgCons (tgN 3) tgNil))) (sIf (tNot1 (tVal (eCB dIsi (aCons (eVarF 3) (aCons (eC (.opq (.ty "str"))) aNil))))) (sRaise "BadRow" ["table", "index"] (aCons (eVarF 0) (aCons (eVarF 2) aNil))) sNext))))
def f_check_text : List D → M JS D := runD 4 (m_check_text)
theorem d_check_text (G : HF K mg base) (A0 A1 : Addr) : FnD ⟨P, w, K, mg⟩ base 3 (jarW A0 A1) "check_text" 2 (f_check_text) := by
  obtain ⟨fd, F⟩ := G.c.def_ 0 (d := dd "check_text" 6) rfl
  exact fnD_of F (m_check_text' G) s_check_text rfl rfl (fun _ _ _ _ _ _ us hl => match us, hl with | [_, _], _ => rfl) fun cdv A outer s H E C F =>
  (dss_cons (ds_if (dt_not (dt_val (de_callB call_isi vn_isi (b_isinstance G) (da_cons de_varF (da_cons (de_bty (b_tuple G)) da_nil))))) (dss_one (ds_raise F (x_BadRow G) (da_cons de_varF (da_cons (de_un un_neg v1_neg de_int) da_nil)))) dss_nil)
  (dss_cons (ds_if (dt_cmp op_gt v2_gt (de_callB call_len vn_len (b_len G) (da_cons de_varF da_nil)) (de_gint (g_MOST_LINES G)) (nomark _)) (dss_one (ds_raise F (x_TooMany G) (da_cons de_varF (da_cons (de_gint (g_MOST_LINES G)) da_nil)))) dss_nil)
  (dss_one (ds_for F.po F.calm (di_enum F.calm (b_enumerate G) (da_cons de_varF da_nil)) (dg_tup F.calm (dgs_cons (dg_name F.nd) (dgs_cons (dg_name F.nd) dgs_nil))) (dss_one (ds_if (dt_not (dt_val (de_callB call_isi vn_isi (b_isinstance G) (da_cons de_varF (da_cons (de_bty (b_str G)) da_nil))))) (dss_one (ds_raise F (x_BadRow G) (da_cons de_varF (da_cons de_varF da_nil)))) dss_nil))))))
theorem s_check_three : FnScope ["base", "ours", "theirs"] ["base", "ours", "theirs"] (defScope (top 7)) := ⟨rfl, rfl, rfl, by decide +kernel, rfl, by decide +kernel, by decide +kernel⟩
def m_check_three : En JS Fl :=
  (sSeq (sExpr (eCall f_check_text 2 (aCons (eC (.str "base")) (aCons (eVarF 0) aNil))))
  (sSeq (sExpr (eCall f_check_text 2 (aCons (eC (.str "ours")) (aCons (eVarF 1) aNil))))
  (sExpr (eCall f_check_text 2 (aCons (eC (.str "theirs")) (aCons (eVarF 2) aNil))))))
def f_check_three : List D → M JS D := runD 3 (m_check_three)
theorem d_check_three (G : HF K mg base) (A0 A1 : Addr) : FnD ⟨P, w, K, mg⟩ base 4 (jarW A0 A1) "check_three" 3 (f_check_three) := by
  obtain ⟨fd, F⟩ := G.c.def_ 1 (d := dd "check_three" 7) rfl
  exact fnD_of F (m_check_three' G) s_check_three rfl rfl (fun _ _ _ _ _ _ us hl => match us, hl with | [_, _, _], _ => rfl) fun cdv A outer s H E C F =>
  (dss_cons (ds_expr (de_call F (d_check_text G A0 A1) (da_cons de_str (da_cons de_varF da_nil))))
  (dss_cons (ds_expr (de_call F (d_check_text G A0 A1) (da_cons de_str (da_cons de_varF da_nil))))
  (dss_one (ds_expr (de_call F (d_check_text G A0 A1) (da_cons de_str (da_cons de_varF da_nil)))))))
theorem s_most_pairs : FnScope ["one", "two", "table", "i", "j"] ["one", "two"] (defScope (top 8)) := ⟨rfl, rfl, rfl, by decide +kernel, rfl, by decide +kernel, by decide +kernel⟩
def m_most_pairs : En JS Fl :=
  (sTabs 2 [] [3] (iOf dRng1 (aCons (eOp2 dAdd (eCB dLen (aCons (eVarF 0) aNil)) (eC (.int 1))) aNil)) (tgN 3) (eRepL (eLst (aCons (eC (.int 0)) aNil)) (eOp2 dAdd (eCB dLen (aCons (eVarF 1) aNil)) (eC (.int 1)))) fun i => (sSeq (sFor [] (iOf dRng3 (aCons (eOp2 dSub (eCB dLen (aCons (eVarF 0) aNil)) (eC (.int 1))) (aCons (eOp1 dNeg (eC (.int 1))) (aCons (eOp1 dNeg (eC (.int 1))) aNil)))) (tgN 3) (sFor [] (iOf dRng3 (aCons (eOp2 dSub (eCB dLen (aCons (eVarF 1) aNil)) (eC (.int 1))) (aCons (eOp1 dNeg (eC (.int 1))) (aCons (eOp1 dNeg (eC (.int 1))) aNil)))) (tgN 4) (sIf (tVal (eOp2 dEq (eOp2 dIx (eVarF 0) (eVarF 3)) (eOp2 dIx (eVarF 1) (eVarF 4)))) (sTab2 i 2 (eOp2 dAdd (eTab2 i 2 (eOp2 dAdd (eVarF 3) (eC (.int 1))) (eOp2 dAdd (eVarF 4) (eC (.int 1)))) (eC (.int 1))) (eVarF 3) (eVarF 4)) (sTab2 i 2 (eCB dMax2 (aCons (eTab2 i 2 (eOp2 dAdd (eVarF 3) (eC (.int 1))) (eVarF 4)) (aCons (eTab2 i 2 (eVarF 3) (eOp2 dAdd (eVarF 4) (eC (.int 1)))) aNil))) (eVarF 3) (eVarF 4)))))
  (sRet (eVarF 2))))
def f_most_pairs : List D → M JS D := runD 5 (m_most_pairs)
theorem d_most_pairs (G : HF K mg base) (A0 A1 : Addr) : FnD ⟨P, w, K, mg⟩ base 2 (jarW A0 A1) "most_pairs" 2 (f_most_pairs) := by
  obtain ⟨fd, F⟩ := G.c.def_ 2 (d := dd "most_pairs" 8) rfl
  exact fnD_of F (m_most_pairs' G) s_most_pairs rfl rfl (fun _ _ _ _ _ _ us hl => match us, hl with | [_, _], _ => rfl) fun cdv A outer s H E C F =>
  (dss_tab [] [("i", 3)] F (di_range1 (b_range G) (da_cons (de_bin op_addA v2_add (de_callB call_len vn_len (b_len G) (da_cons de_varF da_nil)) de_int) da_nil)) (fun _ _ _ _ _ _ F' => (dg_name F'.nd)) (fun _ _ _ _ _ _ F' => (df_repL ((df_lst (da_cons de_int da_nil)).de fun _ _ _ _ => lst_ns) (de_bin op_addA v2_add (de_callB call_len vn_len (b_len G) (da_cons de_varF da_nil)) de_int))) fun i _ Ft => (dss_cons (ds_for Ft.po Ft.calm (di_range3 (b_range G) (da_cons (de_bin op_sub v2_sub (de_callB call_len vn_len (b_len G) (da_cons de_varF da_nil)) de_int) (da_cons (de_un un_neg v1_neg de_int) (da_cons (de_un un_neg v1_neg de_int) da_nil)))) (dg_name Ft.nd) (dss_one (ds_for Ft.po Ft.calm (di_range3 (b_range G) (da_cons (de_bin op_sub v2_sub (de_callB call_len vn_len (b_len G) (da_cons de_varF da_nil)) de_int) (da_cons (de_un un_neg v1_neg de_int) (da_cons (de_un un_neg v1_neg de_int) da_nil)))) (dg_name Ft.nd) (dss_one (ds_if (dt_cmp (op_eqD Ft.u64) v2_eq (de_ixr (ix_all Ft.u1) v2_ix de_varF de_varF (fun _ _ => rfl)) (de_ixr (ix_all Ft.u1) v2_ix de_varF de_varF (fun _ _ => rfl)) (nomark _)) (dss_one (ds_tab2 (de_bin op_addA v2_add (de_tab2 (de_bin op_addA v2_add de_varF de_int) (de_bin op_addA v2_add de_varF de_int) (fun _ _ => rfl) (fun _ _ => rfl)) de_int) de_varF de_varF (fun _ _ => rfl))) (dss_one (ds_tab2 (de_callB (call_max2 Ft.calm) vn_max2 (b_max G) (da_cons (de_tab2 (de_bin op_addA v2_add de_varF de_int) de_varF (fun _ _ => rfl) (fun _ _ => rfl)) (da_cons (de_tab2 de_varF (de_bin op_addA v2_add de_varF de_int) (fun _ _ => rfl) (fun _ _ => rfl)) da_nil))) de_varF de_varF (fun _ _ => rfl))))))))
  (dss_one (ds_ret de_varF))))
theorem s_pairs_between : FnScope ["one", "two", "table", "pairs", "i", "j"] ["one", "two"] (defScope (top 9)) := ⟨rfl, rfl, rfl, by decide +kernel, rfl, by decide +kernel, by decide +kernel⟩
def m_pairs_between : En JS Fl :=
  (sSeq (sAsg 2 [] (eCall f_most_pairs 2 (aCons (eVarF 0) (aCons (eVarF 1) aNil))))
  (sSeq (sAsgF 3 [] (eLst aNil))
  (sSeq (sAsg 4 [] (eC (.int 0)))
  (sSeq (sAsg 5 [] (eC (.int 0)))
  (sSeq (whileD (tAnd2 (tVal (eOp2 dLt (eVarF 4) (eCB dLen (aCons (eVarF 0) aNil)))) (tVal (eOp2 dLt (eVarF 5) (eCB dLen (aCons (eVarF 1) aNil))))) (sIf (tVal (eOp2 dEq (eOp2 dIx (eVarF 0) (eVarF 4)) (eOp2 dIx (eVarF 1) (eVarF 5)))) (sSeq (sApp 3 [] (eTup (aCons (eVarF 4) (aCons (eVarF 5) aNil))))
  (sSeq (sAug 4 (dI2 fun i j => some (.int (i + j))) (eC (.int 1)))
  (sAug 5 (dI2 fun i j => some (.int (i + j))) (eC (.int 1))))) (sIf (tVal (eOp2 dGe (eOp2 dIx (eOp2 dIx (eVarF 2) (eOp2 dAdd (eVarF 4) (eC (.int 1)))) (eVarF 5)) (eOp2 dIx (eOp2 dIx (eVarF 2) (eVarF 4)) (eOp2 dAdd (eVarF 5) (eC (.int 1)))))) (sAug 4 (dI2 fun i j => some (.int (i + j))) (eC (.int 1))) (sAug 5 (dI2 fun i j => some (.int (i + j))) (eC (.int 1))))) 1000)
  (sRet (eCB dTuple (aCons (eVar 3) aNil))))))))
def f_pairs_between : List D → M JS D := runD 6 (m_pairs_between)
theorem d_pairs_between (G : HF K mg base) (A0 A1 : Addr) : FnD ⟨P, w, K, mg⟩ base 3 (jarW A0 A1) "pairs_between" 2 (f_pairs_between) := by
  obtain ⟨fd, F⟩ := G.c.def_ 3 (d := dd "pairs_between" 9) rfl
  exact fnD_of F (m_pairs_between' G) s_pairs_between rfl rfl (fun _ _ _ _ _ _ us hl => match us, hl with | [_, _], _ => rfl) fun cdv A outer s H E C F =>
  (dss_cons (ds_asg (de_call F (d_most_pairs G A0 A1) (da_cons de_varF (da_cons de_varF da_nil))) F.nd)
  (dss_cons (ds_asgF (df_lst da_nil) F.nd)
  (dss_cons (ds_asg de_int F.nd)
  (dss_cons (ds_asg de_int F.nd)
  (dss_cons (ds_while 1000 F.po ((dw_and (dt_cmp op_lt v2_lt de_varF (de_callB call_len vn_len (b_len G) (da_cons de_varF da_nil)) (nomark _)) (dw_and1 (dt_cmp op_lt v2_lt de_varF (de_callB call_len vn_len (b_len G) (da_cons de_varF da_nil)) (nomark _))))).dt (dss_one (ds_if (dt_cmp (op_eqD F.u64) v2_eq (de_ixr (ix_all F.u1) v2_ix de_varF de_varF (fun _ _ => rfl)) (de_ixr (ix_all F.u1) v2_ix de_varF de_varF (fun _ _ => rfl)) (nomark _)) (dss_cons (ds_app (de_tup (da_cons de_varF (da_cons de_varF da_nil))))
  (dss_cons (ds_aug ip_add v2_ipadd de_int F.nd)
  (dss_one (ds_aug ip_add v2_ipadd de_int F.nd)))) (dss_one (ds_if (dt_cmp op_ge v2_ge (de_ixr (ix_all F.u1) v2_ix (de_ixr (ix_all F.u1) v2_ix de_varF (de_bin op_addA v2_add de_varF de_int) (fun _ _ => rfl)) de_varF (fun _ _ => rfl)) (de_ixr (ix_all F.u1) v2_ix (de_ixr (ix_all F.u1) v2_ix de_varF de_varF (fun _ _ => rfl)) (de_bin op_addA v2_add de_varF de_int) (fun _ _ => rfl)) (nomark _)) (dss_one (ds_aug ip_add v2_ipadd de_int F.nd)) (dss_one (ds_aug ip_add v2_ipadd de_int F.nd)))))))
  (dss_one (ds_ret (de_callT call_tupleZ vn_tuple (b_tuple G) (da_cons de_var da_nil)))))))))
theorem s_kept_rows : FnScope ["base", "ours", "theirs", "left", "right", "rows", "index", "our_index", "other", "their_index"] ["base", "ours", "theirs"] (defScope (top 10)) := ⟨rfl, rfl, rfl, by decide +kernel, rfl, by decide +kernel, by decide +kernel⟩
def m_kept_rows : En JS Fl :=
  (sSeq (sAsg 3 [] (eCall f_pairs_between 2 (aCons (eVarF 0) (aCons (eVarF 1) aNil))))
  (sSeq (sAsg 4 [] (eCall f_pairs_between 2 (aCons (eVarF 0) (aCons (eVarF 2) aNil))))
  (sSeq (sAsgF 5 [] (eLst aNil))
  (sSeq (sFor [] (iSeq (eVarF 3)) (tgTup 2 (tgCons (tgN 6) (tgCons (tgN 7) tgNil))) (sFor [] (iSeq (eVarF 4)) (tgTup 2 (tgCons (tgN 8) (tgCons (tgN 9) tgNil))) (sIf (tVal (eOp2 dEq (eVarF 6) (eVarF 8))) (sApp 5 [] (eTup (aCons (eVarF 6) (aCons (eVarF 7) (aCons (eVarF 9) aNil))))) sNext)))
  (sRet (eCB dTuple (aCons (eVar 5) aNil)))))))
def f_kept_rows : List D → M JS D := runD 10 (m_kept_rows)
theorem d_kept_rows (G : HF K mg base) (A0 A1 : Addr) : FnD ⟨P, w, K, mg⟩ base 4 (jarW A0 A1) "kept_rows" 3 (f_kept_rows) := by
  obtain ⟨fd, F⟩ := G.c.def_ 4 (d := dd "kept_rows" 10) rfl
  exact fnD_of F (m_kept_rows' G) s_kept_rows rfl rfl (fun _ _ _ _ _ _ us hl => match us, hl with | [_, _, _], _ => rfl) fun cdv A outer s H E C F =>
  (dss_cons (ds_asg (de_call F (d_pairs_between G A0 A1) (da_cons de_varF (da_cons de_varF da_nil))) F.nd)
  (dss_cons (ds_asg (de_call F (d_pairs_between G A0 A1) (da_cons de_varF (da_cons de_varF da_nil))) F.nd)
  (dss_cons (ds_asgF (df_lst da_nil) F.nd)
  (dss_cons (ds_for F.po F.calm (di_seq de_varF) (dg_tup F.calm (dgs_cons (dg_name F.nd) (dgs_cons (dg_name F.nd) dgs_nil))) (dss_one (ds_for F.po F.calm (di_seq de_varF) (dg_tup F.calm (dgs_cons (dg_name F.nd) (dgs_cons (dg_name F.nd) dgs_nil))) (dss_one (ds_if (dt_cmp (op_eqD F.u64) v2_eq de_varF de_varF (nomark _)) (dss_one (ds_app (de_tup (da_cons de_varF (da_cons de_varF (da_cons de_varF da_nil)))))) dss_nil)))))
  (dss_one (ds_ret (de_callT call_tupleZ vn_tuple (b_tuple G) (da_cons de_var da_nil))))))))
theorem s_kept_lines : FnScope ["base", "ours", "theirs"] ["base", "ours", "theirs"] (defScope (top 11)) := ⟨rfl, rfl, rfl, by decide +kernel, rfl, by decide +kernel, by decide +kernel⟩
def m_kept_lines : En JS Fl :=
  (sSeq (sExpr (eCall f_check_three 3 (aCons (eVarF 0) (aCons (eVarF 1) (aCons (eVarF 2) aNil)))))
  (sRet (eCall f_kept_rows 3 (aCons (eVarF 0) (aCons (eVarF 1) (aCons (eVarF 2) aNil))))))
def f_kept_lines : List D → M JS D := runD 3 (m_kept_lines)
theorem d_kept_lines (G : HF K mg base) (A0 A1 : Addr) : FnD ⟨P, w, K, mg⟩ base 5 (jarW A0 A1) "kept_lines" 3 (f_kept_lines) := by
  obtain ⟨fd, F⟩ := G.c.def_ 5 (d := dd "kept_lines" 11) rfl
  exact fnD_of F (m_kept_lines' G) s_kept_lines rfl rfl (fun _ _ _ _ _ _ us hl => match us, hl with | [_, _, _], _ => rfl) fun cdv A outer s H E C F =>
  (dss_cons (ds_expr (de_call F (d_check_three G A0 A1) (da_cons de_varF (da_cons de_varF (da_cons de_varF da_nil)))))
  (dss_one (ds_ret (de_call F (d_kept_rows G A0 A1) (da_cons de_varF (da_cons de_varF (da_cons de_varF da_nil)))))))
theorem s_stretches : FnScope ["base", "ours", "theirs", "ends", "parts", "start", "end"] ["base", "ours", "theirs"] (defScope (top 12)) := ⟨rfl, rfl, rfl, by decide +kernel, rfl, by decide +kernel, by decide +kernel⟩
def m_stretches : En JS Fl :=
  (sSeq (sAsg 3 [] (eOp2 dAdd (eCall f_kept_rows 3 (aCons (eVarF 0) (aCons (eVarF 1) (aCons (eVarF 2) aNil)))) (eTup (aCons (eTup (aCons (eCB dLen (aCons (eVarF 0) aNil)) (aCons (eCB dLen (aCons (eVarF 1) aNil)) (aCons (eCB dLen (aCons (eVarF 2) aNil)) aNil)))) aNil))))
  (sSeq (sAsgF 4 [] (eLst aNil))
  (sSeq (sAsg 5 [] (eTup (aCons (eC (.int 0)) (aCons (eC (.int 0)) (aCons (eC (.int 0)) aNil)))))
  (sSeq (sFor [] (iSeq (eVarF 3)) (tgN 6) (sSeq (sApp 4 [] (eTup (aCons (eCut (eVarF 0) (oSome (eOp2 dIx (eVarF 5) (eC (.int 0)))) (oSome (eOp2 dIx (eVarF 6) (eC (.int 0))))) (aCons (eCut (eVarF 1) (oSome (eOp2 dIx (eVarF 5) (eC (.int 1)))) (oSome (eOp2 dIx (eVarF 6) (eC (.int 1))))) (aCons (eCut (eVarF 2) (oSome (eOp2 dIx (eVarF 5) (eC (.int 2)))) (oSome (eOp2 dIx (eVarF 6) (eC (.int 2))))) aNil)))))
  (sAsg 5 [] (eTup (aCons (eOp2 dAdd (eOp2 dIx (eVarF 6) (eC (.int 0))) (eC (.int 1))) (aCons (eOp2 dAdd (eOp2 dIx (eVarF 6) (eC (.int 1))) (eC (.int 1))) (aCons (eOp2 dAdd (eOp2 dIx (eVarF 6) (eC (.int 2))) (eC (.int 1))) aNil)))))))
  (sRet (eVar 4))))))
def f_stretches : List D → M JS D := runD 7 (m_stretches)
theorem d_stretches (G : HF K mg base) (A0 A1 : Addr) : FnD ⟨P, w, K, mg⟩ base 5 (jarW A0 A1) "stretches" 3 (f_stretches) := by
  obtain ⟨fd, F⟩ := G.c.def_ 6 (d := dd "stretches" 12) rfl
  exact fnD_of F (m_stretches' G) s_stretches rfl rfl (fun _ _ _ _ _ _ us hl => match us, hl with | [_, _, _], _ => rfl) fun cdv A outer s H E C F =>
  (dss_cons (ds_asg (de_bin op_addA v2_add (de_call F (d_kept_rows G A0 A1) (da_cons de_varF (da_cons de_varF (da_cons de_varF da_nil)))) (de_tup (da_cons (de_tup (da_cons (de_callB call_len vn_len (b_len G) (da_cons de_varF da_nil)) (da_cons (de_callB call_len vn_len (b_len G) (da_cons de_varF da_nil)) (da_cons (de_callB call_len vn_len (b_len G) (da_cons de_varF da_nil)) da_nil)))) da_nil))) F.nd)
  (dss_cons (ds_asgF (df_lst da_nil) F.nd)
  (dss_cons (ds_asg (de_tup (da_cons de_int (da_cons de_int (da_cons de_int da_nil)))) F.nd)
  (dss_cons (ds_for F.po F.calm (di_seq de_varF) (dg_name F.nd) (dss_cons (ds_app (de_tup (da_cons (de_slice de_varF (do_some (de_ixr (ix_all F.u1) v2_ix de_varF de_int (fun _ _ => rfl))) (do_some (de_ixr (ix_all F.u1) v2_ix de_varF de_int (fun _ _ => rfl)))) (da_cons (de_slice de_varF (do_some (de_ixr (ix_all F.u1) v2_ix de_varF de_int (fun _ _ => rfl))) (do_some (de_ixr (ix_all F.u1) v2_ix de_varF de_int (fun _ _ => rfl)))) (da_cons (de_slice de_varF (do_some (de_ixr (ix_all F.u1) v2_ix de_varF de_int (fun _ _ => rfl))) (do_some (de_ixr (ix_all F.u1) v2_ix de_varF de_int (fun _ _ => rfl)))) da_nil)))))
  (dss_one (ds_asg (de_tup (da_cons (de_bin op_addA v2_add (de_ixr (ix_all F.u1) v2_ix de_varF de_int (fun _ _ => rfl)) de_int) (da_cons (de_bin op_addA v2_add (de_ixr (ix_all F.u1) v2_ix de_varF de_int (fun _ _ => rfl)) de_int) (da_cons (de_bin op_addA v2_add (de_ixr (ix_all F.u1) v2_ix de_varF de_int (fun _ _ => rfl)) de_int) da_nil)))) F.nd))))
  (dss_one (ds_ret de_var))))))
theorem s_merged_part : FnScope ["part", "base", "ours", "theirs"] ["part"] (defScope (top 13)) := ⟨rfl, rfl, rfl, by decide +kernel, rfl, by decide +kernel, by decide +kernel⟩
def m_merged_part : En JS Fl :=
  (sSeq (sAsgG (tgTup 3 (tgCons (tgN 1) (tgCons (tgN 2) (tgCons (tgN 3) tgNil)))) [] (eVarF 0))
  (sSeq (sIf (tVal (eOp2 dEq (eVarF 2) (eVarF 1))) (sRet (eVarF 3)) sNext)
  (sSeq (sIf (tOr2 (tVal (eOp2 dEq (eVarF 3) (eVarF 1))) (tVal (eOp2 dEq (eVarF 2) (eVarF 3)))) (sRet (eVarF 2)) sNext)
  (sRet (eC .non)))))
def f_merged_part : List D → M JS D := runD 4 (m_merged_part)
theorem d_merged_part (G : HF K mg base) (A0 A1 : Addr) : FnD ⟨P, w, K, mg⟩ base 2 (jarW A0 A1) "merged_part" 1 (f_merged_part) := by
  obtain ⟨fd, F⟩ := G.c.def_ 7 (d := dd "merged_part" 13) rfl
  exact fnD_of F (m_merged_part' G) s_merged_part rfl rfl (fun _ _ _ _ _ _ us hl => match us, hl with | [_], _ => rfl) fun cdv A outer s H E C F =>
  (dss_cons (ds_asgG de_varF (dg_tup F.calm (dgs_cons (dg_name F.nd) (dgs_cons (dg_name F.nd) (dgs_cons (dg_name F.nd) dgs_nil)))))
  (dss_cons (ds_if (dt_cmp (op_eqD F.u64) v2_eq de_varF de_varF (nomark _)) (dss_one (ds_ret de_varF)) dss_nil)
  (dss_cons (ds_if ((dw_or (dt_cmp (op_eqD F.u64) v2_eq de_varF de_varF (nomark _)) (dw_or1 (dt_cmp (op_eqD F.u64) v2_eq de_varF de_varF (nomark _))))).dt (dss_one (ds_ret de_varF)) dss_nil)
  (dss_one (ds_ret de_non)))))
theorem s_joined : FnScope ["base", "kept", "parts", "lines", "index", "part", "line"] ["base", "kept", "parts"] (defScope (top 14)) := ⟨rfl, rfl, rfl, by decide +kernel, rfl, by decide +kernel, by decide +kernel⟩
def m_joined : En JS Fl :=
  (sSeq (sAsgF 3 [] (eLst aNil))
  (sSeq (sFor [] (iEnum (aCons (eVarF 2) aNil)) (tgTup 2 (tgCons (tgN 4) (tgCons (tgN 5) tgNil))) (sSeq (sFor [] (iSeq (eVarF 5)) (tgN 6) (sApp 3 [] (eVarF 6)))
  (sIf (tVal (eOp2 dLt (eVarF 4) (eCB dLen (aCons (eVarF 1) aNil)))) (sApp 3 [] (eOp2 dIx (eVarF 0) (eOp2 dIx (eOp2 dIx (eVarF 1) (eVarF 4)) (eC (.int 0))))) sNext)))
  (sRet (eCB dTuple (aCons (eVar 3) aNil)))))
def f_joined : List D → M JS D := runD 7 (m_joined)
theorem d_joined (G : HF K mg base) (A0 A1 : Addr) : FnD ⟨P, w, K, mg⟩ base 2 (jarW A0 A1) "joined" 3 (f_joined) := by
  obtain ⟨fd, F⟩ := G.c.def_ 8 (d := dd "joined" 14) rfl
  exact fnD_of F (m_joined' G) s_joined rfl rfl (fun _ _ _ _ _ _ us hl => match us, hl with | [_, _, _], _ => rfl) fun cdv A outer s H E C F =>
  (dss_cons (ds_asgF (df_lst da_nil) F.nd)
  (dss_cons (ds_for F.po F.calm (di_enum F.calm (b_enumerate G) (da_cons de_varF da_nil)) (dg_tup F.calm (dgs_cons (dg_name F.nd) (dgs_cons (dg_name F.nd) dgs_nil))) (dss_cons (ds_for F.po F.calm (di_seq de_varF) (dg_name F.nd) (dss_one (ds_app de_varF)))
  (dss_one (ds_if (dt_cmp op_lt v2_lt de_varF (de_callB call_len vn_len (b_len G) (da_cons de_varF da_nil)) (nomark _)) (dss_one (ds_app (de_ixr (ix_all F.u1) v2_ix de_varF (de_ixr (ix_all F.u1) v2_ix (de_ixr (ix_all F.u1) v2_ix de_varF de_varF (fun _ _ => rfl)) de_int (fun _ _ => rfl)) (fun _ _ => rfl)))) dss_nil))))
  (dss_one (ds_ret (de_callT call_tupleZ vn_tuple (b_tuple G) (da_cons de_var da_nil))))))
theorem s_merge : FnScope ["base", "ours", "theirs", "results", "clashes", "part", "result"] ["base", "ours", "theirs"] (defScope (top 15)) := ⟨rfl, rfl, rfl, by decide +kernel, rfl, by decide +kernel, by decide +kernel⟩
def m_merge : En JS Fl :=
  (sSeq (sExpr (eCall f_check_three 3 (aCons (eVarF 0) (aCons (eVarF 1) (aCons (eVarF 2) aNil)))))
  (sSeq (sAsgF 3 [] (eLst aNil))
  (sSeq (sAsgF 4 [] (eLst aNil))
  (sSeq (sFor [] (iSeq (eCall f_stretches 3 (aCons (eVarF 0) (aCons (eVarF 1) (aCons (eVarF 2) aNil))))) (tgN 5) (sSeq (sAsg 6 [] (eCall f_merged_part 1 (aCons (eVarF 5) aNil)))
  (sSeq (sApp 3 [] (eVarF 6))
  (sIf (tVal (eOp2 dIs (eVarF 6) (eC .non))) (sApp 4 [] (eVarF 5)) sNext))))
  (sSeq (sIf (tVal (eOp2 dGt (eCB dLen (aCons (eVar 4) aNil)) (eC (.int 0)))) (sRet (eTup (aCons (eC (.str "clash")) (aCons (eCB dTuple (aCons (eVar 4) aNil)) aNil)))) sNext)
  (sRet (eTup (aCons (eC (.str "merged")) (aCons (eCall f_joined 3 (aCons (eVarF 0) (aCons (eCall f_kept_rows 3 (aCons (eVarF 0) (aCons (eVarF 1) (aCons (eVarF 2) aNil)))) (aCons (eVar 3) aNil)))) aNil)))))))))
def f_merge : List D → M JS D := runD 7 (m_merge)
theorem d_merge (G : HF K mg base) (A0 A1 : Addr) : FnD ⟨P, w, K, mg⟩ base 6 (jarW A0 A1) "merge" 3 (f_merge) := by
  obtain ⟨fd, F⟩ := G.c.def_ 9 (d := dd "merge" 15) rfl
  exact fnD_of F (m_merge' G) s_merge rfl rfl (fun _ _ _ _ _ _ us hl => match us, hl with | [_, _, _], _ => rfl) fun cdv A outer s H E C F =>
  (dss_cons (ds_expr (de_call F (d_check_three G A0 A1) (da_cons de_varF (da_cons de_varF (da_cons de_varF da_nil)))))
  (dss_cons (ds_asgF (df_lst da_nil) F.nd)
  (dss_cons (ds_asgF (df_lst da_nil) F.nd)
  (dss_cons (ds_for F.po F.calm (di_seq (de_call F (d_stretches G A0 A1) (da_cons de_varF (da_cons de_varF (da_cons de_varF da_nil))))) (dg_name F.nd) (dss_cons (ds_asg (de_call F (d_merged_part G A0 A1) (da_cons de_varF da_nil)) F.nd)
  (dss_cons (ds_app de_varF)
  (dss_one (ds_if (dt_cmp op_isN v2_is de_varF de_non (nomark _)) (dss_one (ds_app de_varF)) dss_nil)))))
  (dss_cons (ds_if (dt_cmp op_gt v2_gt (de_callB call_len vn_len (b_len G) (da_cons de_var da_nil)) de_int (nomark _)) (dss_one (ds_ret (de_tup (da_cons de_str (da_cons (de_callT call_tupleZ vn_tuple (b_tuple G) (da_cons de_var da_nil)) da_nil))))) dss_nil)
  (dss_one (ds_ret (de_tup (da_cons de_str (da_cons (de_call F (d_joined G A0 A1) (da_cons de_varF (da_cons (de_call F (d_kept_rows G A0 A1) (da_cons de_varF (da_cons de_varF (da_cons de_varF da_nil)))) (da_cons de_var da_nil)))) da_nil))))))))))
theorem s_merge_for : FnScope ["base", "ours", "theirs", "side", "results", "part", "result"] ["base", "ours", "theirs", "side"] (defScope (top 16)) := ⟨rfl, rfl, rfl, by decide +kernel, rfl, by decide +kernel, by decide +kernel⟩
def m_merge_for : En JS Fl :=
  (sSeq (sExpr (eCall f_check_three 3 (aCons (eVarF 0) (aCons (eVarF 1) (aCons (eVarF 2) aNil)))))
  (sSeq (sAsgF 4 [] (eLst aNil))
  (sSeq (sFor [] (iSeq (eCall f_stretches 3 (aCons (eVarF 0) (aCons (eVarF 1) (aCons (eVarF 2) aNil))))) (tgN 5) (sSeq (sAsg 6 [] (eCall f_merged_part 1 (aCons (eVarF 5) aNil)))
  (sSeq (sIf (tVal (eOp2 dIs (eVarF 6) (eC .non))) (sSeq (sAsg 6 [] (eOp2 dIx (eVarF 5) (eC (.int 1))))
  (sIf (tVal (eOp2 dEq (eVarF 3) (eC (.str "theirs")))) (sAsg 6 [] (eOp2 dIx (eVarF 5) (eC (.int 2)))) sNext)) sNext)
  (sApp 4 [] (eVarF 6)))))
  (sRet (eCall f_joined 3 (aCons (eVarF 0) (aCons (eCall f_kept_rows 3 (aCons (eVarF 0) (aCons (eVarF 1) (aCons (eVarF 2) aNil)))) (aCons (eVar 4) aNil))))))))
def f_merge_for : List D → M JS D := runD 7 (m_merge_for)
theorem d_merge_for (G : HF K mg base) (A0 A1 : Addr) : FnD ⟨P, w, K, mg⟩ base 6 (jarW A0 A1) "merge_for" 4 (f_merge_for) := by
  obtain ⟨fd, F⟩ := G.c.def_ 10 (d := dd "merge_for" 16) rfl
  exact fnD_of F (m_merge_for' G) s_merge_for rfl rfl (fun _ _ _ _ _ _ us hl => match us, hl with | [_, _, _, _], _ => rfl) fun cdv A outer s H E C F =>
  (dss_cons (ds_expr (de_call F (d_check_three G A0 A1) (da_cons de_varF (da_cons de_varF (da_cons de_varF da_nil)))))
  (dss_cons (ds_asgF (df_lst da_nil) F.nd)
  (dss_cons (ds_for F.po F.calm (di_seq (de_call F (d_stretches G A0 A1) (da_cons de_varF (da_cons de_varF (da_cons de_varF da_nil))))) (dg_name F.nd) (dss_cons (ds_asg (de_call F (d_merged_part G A0 A1) (da_cons de_varF da_nil)) F.nd)
  (dss_cons (ds_if (dt_cmp op_isN v2_is de_varF de_non (nomark _)) (dss_cons (ds_asg (de_ixr (ix_all F.u1) v2_ix de_varF de_int (fun _ _ => rfl)) F.nd)
  (dss_one (ds_if (dt_cmp (op_eqD F.u64) v2_eq de_varF de_str (nomark _)) (dss_one (ds_asg (de_ixr (ix_all F.u1) v2_ix de_varF de_int (fun _ _ => rfl)) F.nd)) dss_nil))) dss_nil)
  (dss_one (ds_app de_varF)))))
  (dss_one (ds_ret (de_call F (d_joined G A0 A1) (da_cons de_varF (da_cons (de_call F (d_kept_rows G A0 A1) (da_cons de_varF (da_cons de_varF (da_cons de_varF da_nil)))) (da_cons de_var da_nil)))))))))
theorem s__law_jar : FnScope ["script", "cell"] ["script"] (defScope (top 18)) := ⟨rfl, rfl, rfl, by decide +kernel, rfl, by decide +kernel, by decide +kernel⟩
def m__law_jar (a : Addr) (ns : List Int) : En Unit Fl :=
  (sRet (eLst (aCons (eC (.int 0)) (aCons (eLc [] [1] (iSeq (eCutS a ns (eVarF 0) oNone (oSome (eC (.int 63))))) (tgN 1) tYesD (eOp2 dMod (eCB dInt (aCons (eVarF 1) aNil)) (eOp2 dPow (eC (.int 10)) (eC (.int 60))))) aNil))))
def f__law_jar (a : Addr) (ns : List Int) : List D → M Unit D := runD 2 (m__law_jar a ns)
theorem d__law_jar (G : HF K mg base) (a : Addr) (ns : List Int) : FnD ⟨P, w, K, mg⟩ base 2 (scrW K a ns) "_law_jar" 1 (f__law_jar a ns) := by
  obtain ⟨fd, F⟩ := G.c.def_ 11 (d := dd "_law_jar" 18) rfl
  exact fnD_of F (m__law_jar' G) s__law_jar rfl rfl (fun _ _ _ _ _ _ us hl => match us, hl with | [_], _ => rfl) fun cdv A outer s H E C F =>
  (dss_one (ds_ret ((df_lst (da_cons de_int (da_cons ((df_lc [] [("cell", 1)] F (di_seq (de_sliceS de_varF do_none (do_some de_int))) (fun _ _ _ _ _ _ F' => (dg_name F'.nd)) (fun _ _ _ _ _ _ F' => dts_nil) (fun _ _ _ _ _ _ F' => (de_bin op_mod v2_mod (de_callT call_int1 vn_int (b_int G) (da_cons de_varF da_nil)) (de_bin op_pow v2_pow de_int de_int)))).de lc_ns) da_nil))).de fun _ _ _ _ => lst_ns)))
theorem s__law_take : FnScope ["jar", "size", "k", "cells", "at", "cell", "one", "two"] ["jar", "size"] (defScope (top 19)) := ⟨rfl, rfl, rfl, by decide +kernel, rfl, by decide +kernel, by decide +kernel⟩
def m__law_take (A0 A1 : Addr) : En JS Fl :=
  (sSeq (sAsg 2 [] (eIxJ A0 A1 (eVar 0) (eC (.int 0))))
  (sSeq (sAsg 3 [] (eIxJ A0 A1 (eVar 0) (eC (.int 1))))
  (sSeq (sPutJ A0 A1 0 (eOp2 dAdd (eVarF 2) (eC (.int 1))) (eC (.int 0)))
  (sSeq (sIf (tVal (eOp2 dEq (eLenJ A1 (aCons (eVar 3) aNil)) (eC (.int 0)))) (sRet (eC (.int 0))) sNext)
  (sSeq (sAsg 4 [] (eOp2 dMod (eCB dInt (aCons (eVarF 2) aNil)) (eLenJ A1 (aCons (eVar 3) aNil))))
  (sSeq (sAsg 5 [] (eIxJ A0 A1 (eVar 3) (eVarF 4)))
  (sSeq (sIf (tVal (eOp2 dGe (eVarF 5) (eOp2 dPow (eC (.int 10)) (eC (.int 18))))) (sSeq (sPutJ A0 A1 3 (eOp2 dDiv (eVarF 5) (eVarF 1)) (eVarF 4))
  (sRet (eOp2 dMod (eCB dInt (aCons (eVarF 5) aNil)) (eVarF 1)))) sNext)
  (sSeq (sAsg 6 [] (eOp2 dMod (eCB dInt (aCons (eOp2 dAdd (eOp2 dAdd (eOp2 dMul (eVarF 5) (eC (.int 48271))) (eOp2 dMul (eVarF 2) (eC (.int 69621)))) (eC (.int 11))) aNil)) (eC (.int 2147483647))))
  (sSeq (sAsg 7 [] (eOp2 dMod (eCB dInt (aCons (eOp2 dAdd (eOp2 dAdd (eOp2 dMul (eVarF 6) (eVarF 6)) (eOp2 dMul (eVarF 5) (eC (.int 31)))) (eOp2 dMul (eVarF 2) (eC (.int 40014)))) aNil)) (eC (.int 1000003))))
  (sRet (eOp2 dMod (eCB dInt (aCons (eVarF 7) aNil)) (eVarF 1))))))))))))
def f__law_take (A0 A1 : Addr) : List D → M JS D := runD 8 (m__law_take A0 A1)
theorem d__law_take (G : HF K mg base) (A0 A1 : Addr) : FnD ⟨P, w, K, mg⟩ base 2 (jarW A0 A1) "_law_take" 2 (f__law_take A0 A1) := by
  obtain ⟨fd, F⟩ := G.c.def_ 12 (d := dd "_law_take" 19) rfl
  exact fnD_of F (m__law_take' G) s__law_take rfl rfl (fun _ _ _ _ _ _ us hl => match us, hl with | [_, _], _ => rfl) fun cdv A outer s H E C F =>
  (dss_cons (ds_asg (de_ixJ de_var de_int (fun _ _ => rfl)) F.nd)
  (dss_cons (ds_asg (de_ixJ de_var de_int (fun _ _ => rfl)) F.nd)
  (dss_cons (ds_putJ (de_bin op_addA v2_add de_varF de_int) de_int)
  (dss_cons (ds_if (dt_cmp (op_eqD F.u64) v2_eq (de_lenJ (b_len G) (da_cons de_var da_nil)) de_int (nomark _)) (dss_one (ds_ret de_int)) dss_nil)
  (dss_cons (ds_asg (de_bin op_mod v2_mod (de_callT call_int1 vn_int (b_int G) (da_cons de_varF da_nil)) (de_lenJ (b_len G) (da_cons de_var da_nil))) F.nd)
  (dss_cons (ds_asg (de_ixJ de_var de_varF (fun _ _ => rfl)) F.nd)
  (dss_cons (ds_if (dt_cmp op_ge v2_ge de_varF (de_bin op_pow v2_pow de_int de_int) (nomark _)) (dss_cons (ds_putJ (de_bin op_fdiv v2_div de_varF de_varF) de_varF)
  (dss_one (ds_ret (de_bin op_mod v2_mod (de_callT call_int1 vn_int (b_int G) (da_cons de_varF da_nil)) de_varF)))) dss_nil)
  (dss_cons (ds_asg (de_bin op_mod v2_mod (de_callT call_int1 vn_int (b_int G) (da_cons (de_bin op_addA v2_add (de_bin op_addA v2_add (de_bin op_mul v2_mulI de_varF de_int) (de_bin op_mul v2_mulI de_varF de_int)) de_int) da_nil)) de_int) F.nd)
  (dss_cons (ds_asg (de_bin op_mod v2_mod (de_callT call_int1 vn_int (b_int G) (da_cons (de_bin op_addA v2_add (de_bin op_addA v2_add (de_bin op_mul v2_mulI de_varF de_varF) (de_bin op_mul v2_mulI de_varF de_int)) (de_bin op_mul v2_mulI de_varF de_int)) da_nil)) de_int) F.nd)
  (dss_one (ds_ret (de_bin op_mod v2_mod (de_callT call_int1 vn_int (b_int G) (da_cons de_varF da_nil)) de_varF))))))))))))
theorem s__law_pick : FnScope ["jar", "rows"] ["jar", "rows"] (defScope (top 20)) := ⟨rfl, rfl, rfl, by decide +kernel, rfl, by decide +kernel, by decide +kernel⟩
def m__law_pick (A0 A1 : Addr) : En JS Fl :=
  (sRet (eOp2 dIx (eVarF 1) (eCall (f__law_take A0 A1) 2 (aCons (eVarF 0) (aCons (eCB dLen (aCons (eVarF 1) aNil)) aNil)))))
def f__law_pick (A0 A1 : Addr) : List D → M JS D := runD 2 (m__law_pick A0 A1)
theorem d__law_pick (G : HF K mg base) (A0 A1 : Addr) : FnD ⟨P, w, K, mg⟩ base 3 (jarW A0 A1) "_law_pick" 2 (f__law_pick A0 A1) := by
  obtain ⟨fd, F⟩ := G.c.def_ 13 (d := dd "_law_pick" 20) rfl
  exact fnD_of F (m__law_pick' G) s__law_pick rfl rfl (fun _ _ _ _ _ _ us hl => match us, hl with | [_, _], _ => rfl) fun cdv A outer s H E C F =>
  (dss_one (ds_ret (de_ixr (ix_all F.u1) v2_ix de_varF (de_call F (d__law_take G A0 A1) (da_cons de_varF (da_cons (de_callB call_len vn_len (b_len G) (da_cons de_varF da_nil)) da_nil))) (fun _ _ => rfl))))
theorem s__law_same : FnScope ["actual", "due", "k"] ["actual", "due"] (defScope (top 21)) := ⟨rfl, rfl, rfl, by decide +kernel, rfl, by decide +kernel, by decide +kernel⟩
def m__law_same (self : List D → M JS D) : En JS Fl :=
  (sSeq (sIf (tVal (eCB dIsi (aCons (eVarF 1) (aCons (eC (.opq (.ty "tuple"))) aNil)))) (sSeq (sIf (tOr2 (tNot1 (tVal (eCB dIsi (aCons (eVarF 0) (aCons (eC (.opq (.ty "tuple"))) aNil))))) (tVal (eOp2 dNe (eCB dLen (aCons (eVarF 0) aNil)) (eCB dLen (aCons (eVarF 1) aNil))))) (sRet (eC (.bl false))) sNext)
  (sSeq (sFor [] (iOf dRng1 (aCons (eCB dLen (aCons (eVarF 1) aNil)) aNil)) (tgN 2) (sIf (tNot1 (tVal (eCall self 2 (aCons (eOp2 dIx (eVarF 0) (eVarF 2)) (aCons (eOp2 dIx (eVarF 1) (eVarF 2)) aNil))))) (sRet (eC (.bl false))) sNext))
  (sRet (eC (.bl true))))) sNext)
  (sSeq (sIf (tVal (eOp2 dIs (eVarF 1) (eC .non))) (sRet (eOp2 dIs (eVarF 0) (eC .non))) sNext)
  (sSeq (sIf (tVal (eCB dIsi (aCons (eVarF 1) (aCons (eC (.opq (.ty "bool"))) aNil)))) (sRet (eAnd2 (eCB dIsi (aCons (eVarF 0) (aCons (eC (.opq (.ty "bool"))) aNil))) (eOp2 dEq (eVarF 0) (eVarF 1)))) sNext)
  (sSeq (sIf (tVal (eCB dIsi (aCons (eVarF 1) (aCons (eC (.opq (.ty "int"))) aNil)))) (sRet (eAnd2 (eCB dIsi (aCons (eVarF 0) (aCons (eC (.opq (.ty "int"))) aNil))) (eAnd2 (eNot1 (eCB dIsi (aCons (eVarF 0) (aCons (eC (.opq (.ty "bool"))) aNil)))) (eOp2 dEq (eVarF 0) (eVarF 1))))) sNext)
  (sRet (eAnd2 (eCB dIsi (aCons (eVarF 0) (aCons (eC (.opq (.ty "str"))) aNil))) (eOp2 dEq (eVarF 0) (eVarF 1))))))))
def f__law_same : Nat → List D → M JS D
  | 0 => fun _ => M.fail
  | n + 1 => runD 3 (m__law_same (f__law_same n))
theorem d__law_same (G : HF K mg base) (A0 A1 : Addr) : ∀ n : Nat, FnD ⟨P, w, K, mg⟩ base (2 + n) (jarW A0 A1) "_law_same" 2 (f__law_same n)
  | 0 => by
    obtain ⟨fd, F⟩ := G.c.def_ 14 (d := dd "_law_same" 21) rfl
    exact fnD_fail (ps := ["actual", "due"]) F (m__law_same' G) (fun _ _ _ _ _ _ us hl => match us, hl with | [_, _], _ => rfl)
  | n + 1 => by
    obtain ⟨fd, F⟩ := G.c.def_ 14 (d := dd "_law_same" 21) rfl
    have ih := d__law_same G A0 A1 n
    exact fnD_of (lv := 2 + n) F (m__law_same' G) s__law_same rfl rfl (fun _ _ _ _ _ _ us hl => match us, hl with | [_, _], _ => rfl) fun cdv A outer s H E C F =>
  (dss_cons (ds_if (dt_val (de_callB call_isi vn_isi (b_isinstance G) (da_cons de_varF (da_cons (de_bty (b_tuple G)) da_nil)))) (dss_cons (ds_if ((dw_or (dt_not (dt_val (de_callB call_isi vn_isi (b_isinstance G) (da_cons de_varF (da_cons (de_bty (b_tuple G)) da_nil))))) (dw_or1 (dt_cmp (op_neD F.u64) v2_ne (de_callB call_len vn_len (b_len G) (da_cons de_varF da_nil)) (de_callB call_len vn_len (b_len G) (da_cons de_varF da_nil)) (nomark _))))).dt (dss_one (ds_ret de_bl)) dss_nil)
  (dss_cons (ds_for F.po F.calm (di_range1 (b_range G) (da_cons (de_callB call_len vn_len (b_len G) (da_cons de_varF da_nil)) da_nil)) (dg_name F.nd) (dss_one (ds_if (dt_not (dt_val (de_call F ih (da_cons (de_ixr (ix_all F.u1) v2_ix de_varF de_varF (fun _ _ => rfl)) (da_cons (de_ixr (ix_all F.u1) v2_ix de_varF de_varF (fun _ _ => rfl)) da_nil)) (le := by omega)))) (dss_one (ds_ret de_bl)) dss_nil)))
  (dss_one (ds_ret de_bl)))) dss_nil)
  (dss_cons (ds_if (dt_cmp op_isN v2_is de_varF de_non (nomark _)) (dss_one (ds_ret (de_cmp op_isN v2_is de_varF de_non (nomark _)))) dss_nil)
  (dss_cons (ds_if (dt_val (de_callB call_isi vn_isi (b_isinstance G) (da_cons de_varF (da_cons (de_bty (b_bool G)) da_nil)))) (dss_one (ds_ret (de_and (de_callB call_isi vn_isi (b_isinstance G) (da_cons de_varF (da_cons (de_bty (b_bool G)) da_nil))) (de_one (de_cmp (op_eqD F.u64) v2_eq de_varF de_varF (nomark _)))))) dss_nil)
  (dss_cons (ds_if (dt_val (de_callB call_isi vn_isi (b_isinstance G) (da_cons de_varF (da_cons (de_bty (b_int G)) da_nil)))) (dss_one (ds_ret (de_and (de_callB call_isi vn_isi (b_isinstance G) (da_cons de_varF (da_cons (de_bty (b_int G)) da_nil))) (de_and (de_not (de_callB call_isi vn_isi (b_isinstance G) (da_cons de_varF (da_cons (de_bty (b_bool G)) da_nil)))) (de_one (de_cmp (op_eqD F.u64) v2_eq de_varF de_varF (nomark _))))))) dss_nil)
  (dss_one (ds_ret (de_and (de_callB call_isi vn_isi (b_isinstance G) (da_cons de_varF (da_cons (de_bty (b_str G)) da_nil))) (de_one (de_cmp (op_eqD F.u64) v2_eq de_varF de_varF (nomark _))))))))))
theorem s__law_table : FnScope ["one", "two", "table", "up", "i", "left", "j"] ["one", "two"] (defScope (top 22)) := ⟨rfl, rfl, rfl, by decide +kernel, rfl, by decide +kernel, by decide +kernel⟩
def m__law_table : En JS Fl :=
  (sTabs 2 [] [4] (iOf dRng1 (aCons (eOp2 dAdd (eCB dLen (aCons (eVarF 0) aNil)) (eC (.int 1))) aNil)) (tgN 4) (eRepL (eLst (aCons (eC (.int 0)) aNil)) (eOp2 dAdd (eCB dLen (aCons (eVarF 1) aNil)) (eC (.int 1)))) fun i => (sSeq (sFor [] (iOf dRng1 (aCons (eCB dLen (aCons (eVarF 0) aNil)) aNil)) (tgN 3) (sSeq (sAsg 4 [] (eOp2 dSub (eOp2 dSub (eCB dLen (aCons (eVarF 0) aNil)) (eC (.int 1))) (eVarF 3)))
  (sFor [] (iOf dRng1 (aCons (eCB dLen (aCons (eVarF 1) aNil)) aNil)) (tgN 5) (sSeq (sAsg 6 [] (eOp2 dSub (eOp2 dSub (eCB dLen (aCons (eVarF 1) aNil)) (eC (.int 1))) (eVarF 5)))
  (sIf (tVal (eOp2 dEq (eOp2 dIx (eVarF 0) (eVarF 4)) (eOp2 dIx (eVarF 1) (eVarF 6)))) (sTab2 i 2 (eOp2 dAdd (eC (.int 1)) (eTab2 i 2 (eOp2 dAdd (eVarF 4) (eC (.int 1))) (eOp2 dAdd (eVarF 6) (eC (.int 1))))) (eVarF 4) (eVarF 6)) (sTab2 i 2 (eCB dMax2 (aCons (eTab2 i 2 (eOp2 dAdd (eVarF 4) (eC (.int 1))) (eVarF 6)) (aCons (eTab2 i 2 (eVarF 4) (eOp2 dAdd (eVarF 6) (eC (.int 1)))) aNil))) (eVarF 4) (eVarF 6)))))))
  (sRet (eVarF 2))))
def f__law_table : List D → M JS D := runD 7 (m__law_table)
theorem d__law_table (G : HF K mg base) (A0 A1 : Addr) : FnD ⟨P, w, K, mg⟩ base 2 (jarW A0 A1) "_law_table" 2 (f__law_table) := by
  obtain ⟨fd, F⟩ := G.c.def_ 15 (d := dd "_law_table" 22) rfl
  exact fnD_of F (m__law_table' G) s__law_table rfl rfl (fun _ _ _ _ _ _ us hl => match us, hl with | [_, _], _ => rfl) fun cdv A outer s H E C F =>
  (dss_tab [] [("i", 4)] F (di_range1 (b_range G) (da_cons (de_bin op_addA v2_add (de_callB call_len vn_len (b_len G) (da_cons de_varF da_nil)) de_int) da_nil)) (fun _ _ _ _ _ _ F' => (dg_name F'.nd)) (fun _ _ _ _ _ _ F' => (df_repL ((df_lst (da_cons de_int da_nil)).de fun _ _ _ _ => lst_ns) (de_bin op_addA v2_add (de_callB call_len vn_len (b_len G) (da_cons de_varF da_nil)) de_int))) fun i _ Ft => (dss_cons (ds_for Ft.po Ft.calm (di_range1 (b_range G) (da_cons (de_callB call_len vn_len (b_len G) (da_cons de_varF da_nil)) da_nil)) (dg_name Ft.nd) (dss_cons (ds_asg (de_bin op_sub v2_sub (de_bin op_sub v2_sub (de_callB call_len vn_len (b_len G) (da_cons de_varF da_nil)) de_int) de_varF) Ft.nd)
  (dss_one (ds_for Ft.po Ft.calm (di_range1 (b_range G) (da_cons (de_callB call_len vn_len (b_len G) (da_cons de_varF da_nil)) da_nil)) (dg_name Ft.nd) (dss_cons (ds_asg (de_bin op_sub v2_sub (de_bin op_sub v2_sub (de_callB call_len vn_len (b_len G) (da_cons de_varF da_nil)) de_int) de_varF) Ft.nd)
  (dss_one (ds_if (dt_cmp (op_eqD Ft.u64) v2_eq (de_ixr (ix_all Ft.u1) v2_ix de_varF de_varF (fun _ _ => rfl)) (de_ixr (ix_all Ft.u1) v2_ix de_varF de_varF (fun _ _ => rfl)) (nomark _)) (dss_one (ds_tab2 (de_bin op_addA v2_add de_int (de_tab2 (de_bin op_addA v2_add de_varF de_int) (de_bin op_addA v2_add de_varF de_int) (fun _ _ => rfl) (fun _ _ => rfl))) de_varF de_varF (fun _ _ => rfl))) (dss_one (ds_tab2 (de_callB (call_max2 Ft.calm) vn_max2 (b_max G) (da_cons (de_tab2 (de_bin op_addA v2_add de_varF de_int) de_varF (fun _ _ => rfl) (fun _ _ => rfl)) (da_cons (de_tab2 de_varF (de_bin op_addA v2_add de_varF de_int) (fun _ _ => rfl) (fun _ _ => rfl)) da_nil))) de_varF de_varF (fun _ _ => rfl))))))))))
  (dss_one (ds_ret de_varF))))
theorem s__law_align : FnScope ["one", "two", "table", "pairs", "i", "j", "k"] ["one", "two"] (defScope (top 23)) := ⟨rfl, rfl, rfl, by decide +kernel, rfl, by decide +kernel, by decide +kernel⟩
def m__law_align : En JS Fl :=
  (sSeq (sAsg 2 [] (eCall f__law_table 2 (aCons (eVarF 0) (aCons (eVarF 1) aNil))))
  (sSeq (sAsgF 3 [] (eLst aNil))
  (sSeq (sAsg 4 [] (eC (.int 0)))
  (sSeq (sAsg 5 [] (eC (.int 0)))
  (sSeq (sFor [] (iOf dRng1 (aCons (eOp2 dAdd (eCB dLen (aCons (eVarF 0) aNil)) (eCB dLen (aCons (eVarF 1) aNil))) aNil)) (tgN 6) (sIf (tAnd2 (tVal (eOp2 dLt (eVarF 4) (eCB dLen (aCons (eVarF 0) aNil)))) (tVal (eOp2 dLt (eVarF 5) (eCB dLen (aCons (eVarF 1) aNil))))) (sIf (tVal (eOp2 dEq (eOp2 dIx (eVarF 0) (eVarF 4)) (eOp2 dIx (eVarF 1) (eVarF 5)))) (sSeq (sApp 3 [] (eTup (aCons (eVarF 4) (aCons (eVarF 5) aNil))))
  (sSeq (sAsg 4 [] (eOp2 dAdd (eVarF 4) (eC (.int 1))))
  (sAsg 5 [] (eOp2 dAdd (eVarF 5) (eC (.int 1)))))) (sIf (tVal (eOp2 dGe (eOp2 dIx (eOp2 dIx (eVarF 2) (eOp2 dAdd (eVarF 4) (eC (.int 1)))) (eVarF 5)) (eOp2 dIx (eOp2 dIx (eVarF 2) (eVarF 4)) (eOp2 dAdd (eVarF 5) (eC (.int 1)))))) (sAsg 4 [] (eOp2 dAdd (eVarF 4) (eC (.int 1)))) (sAsg 5 [] (eOp2 dAdd (eVarF 5) (eC (.int 1)))))) sNext))
  (sRet (eCB dTuple (aCons (eVar 3) aNil))))))))
def f__law_align : List D → M JS D := runD 7 (m__law_align)
theorem d__law_align (G : HF K mg base) (A0 A1 : Addr) : FnD ⟨P, w, K, mg⟩ base 3 (jarW A0 A1) "_law_align" 2 (f__law_align) := by
  obtain ⟨fd, F⟩ := G.c.def_ 16 (d := dd "_law_align" 23) rfl
  exact fnD_of F (m__law_align' G) s__law_align rfl rfl (fun _ _ _ _ _ _ us hl => match us, hl with | [_, _], _ => rfl) fun cdv A outer s H E C F =>
  (dss_cons (ds_asg (de_call F (d__law_table G A0 A1) (da_cons de_varF (da_cons de_varF da_nil))) F.nd)
  (dss_cons (ds_asgF (df_lst da_nil) F.nd)
  (dss_cons (ds_asg de_int F.nd)
  (dss_cons (ds_asg de_int F.nd)
  (dss_cons (ds_for F.po F.calm (di_range1 (b_range G) (da_cons (de_bin op_addA v2_add (de_callB call_len vn_len (b_len G) (da_cons de_varF da_nil)) (de_callB call_len vn_len (b_len G) (da_cons de_varF da_nil))) da_nil)) (dg_name F.nd) (dss_one (ds_if ((dw_and (dt_cmp op_lt v2_lt de_varF (de_callB call_len vn_len (b_len G) (da_cons de_varF da_nil)) (nomark _)) (dw_and1 (dt_cmp op_lt v2_lt de_varF (de_callB call_len vn_len (b_len G) (da_cons de_varF da_nil)) (nomark _))))).dt (dss_one (ds_if (dt_cmp (op_eqD F.u64) v2_eq (de_ixr (ix_all F.u1) v2_ix de_varF de_varF (fun _ _ => rfl)) (de_ixr (ix_all F.u1) v2_ix de_varF de_varF (fun _ _ => rfl)) (nomark _)) (dss_cons (ds_app (de_tup (da_cons de_varF (da_cons de_varF da_nil))))
  (dss_cons (ds_asg (de_bin op_addA v2_add de_varF de_int) F.nd)
  (dss_one (ds_asg (de_bin op_addA v2_add de_varF de_int) F.nd)))) (dss_one (ds_if (dt_cmp op_ge v2_ge (de_ixr (ix_all F.u1) v2_ix (de_ixr (ix_all F.u1) v2_ix de_varF (de_bin op_addA v2_add de_varF de_int) (fun _ _ => rfl)) de_varF (fun _ _ => rfl)) (de_ixr (ix_all F.u1) v2_ix (de_ixr (ix_all F.u1) v2_ix de_varF de_varF (fun _ _ => rfl)) (de_bin op_addA v2_add de_varF de_int) (fun _ _ => rfl)) (nomark _)) (dss_one (ds_asg (de_bin op_addA v2_add de_varF de_int) F.nd)) (dss_one (ds_asg (de_bin op_addA v2_add de_varF de_int) F.nd)))))) dss_nil)))
  (dss_one (ds_ret (de_callT call_tupleZ vn_tuple (b_tuple G) (da_cons de_var da_nil)))))))))
theorem s__law_lines : FnScope ["jar", "most", "k"] ["jar", "most"] (defScope (top 24)) := ⟨rfl, rfl, rfl, by decide +kernel, rfl, by decide +kernel, by decide +kernel⟩
def m__law_lines (A0 A1 : Addr) : En JS Fl :=
  (sRet (eCB dTuple (aCons (eLc [] [2] (iOf dRng1 (aCons (eCall (f__law_take A0 A1) 2 (aCons (eVarF 0) (aCons (eOp2 dAdd (eVarF 1) (eC (.int 1))) aNil))) aNil)) (tgN 2) tYesD (eCall (f__law_pick A0 A1) 2 (aCons (eVarF 0) (aCons (eLst (aCons (eC (.str "a")) (aCons (eC (.str "b")) (aCons (eC (.str "c")) (aCons (eC (.str "")) aNil))))) aNil)))) aNil)))
def f__law_lines (A0 A1 : Addr) : List D → M JS D := runD 3 (m__law_lines A0 A1)
theorem d__law_lines (G : HF K mg base) (A0 A1 : Addr) : FnD ⟨P, w, K, mg⟩ base 4 (jarW A0 A1) "_law_lines" 2 (f__law_lines A0 A1) := by
  obtain ⟨fd, F⟩ := G.c.def_ 17 (d := dd "_law_lines" 24) rfl
  exact fnD_of F (m__law_lines' G) s__law_lines rfl rfl (fun _ _ _ _ _ _ us hl => match us, hl with | [_, _], _ => rfl) fun cdv A outer s H E C F =>
  (dss_one (ds_ret (de_callT call_tupleZ vn_tuple (b_tuple G) (da_cons ((df_lc [] [("k", 2)] F (di_range1 (b_range G) (da_cons (de_call F (d__law_take G A0 A1) (da_cons de_varF (da_cons (de_bin op_addA v2_add de_varF de_int) da_nil))) da_nil)) (fun _ _ _ _ _ _ F' => (dg_name F'.nd)) (fun _ _ _ _ _ _ F' => dts_nil) (fun _ _ _ _ _ _ F' => (de_call F' (d__law_pick G A0 A1) (da_cons de_varF (da_cons ((df_lst (da_cons de_str (da_cons de_str (da_cons de_str (da_cons de_str da_nil))))).de fun _ _ _ _ => lst_ns) da_nil))))).de lc_ns) da_nil))))
theorem s__law_edit : FnScope ["jar", "base", "lines", "line", "deed"] ["jar", "base"] (defScope (top 25)) := ⟨rfl, rfl, rfl, by decide +kernel, rfl, by decide +kernel, by decide +kernel⟩
def m__law_edit (A0 A1 : Addr) : En JS Fl :=
  (sSeq (sAsgF 2 [] (eLst aNil))
  (sSeq (sFor [] (iSeq (eVarF 1)) (tgN 3) (sSeq (sAsg 4 [] (eCall (f__law_take A0 A1) 2 (aCons (eVarF 0) (aCons (eC (.int 6)) aNil))))
  (sSeq (sIf (tVal (eOp2 dLt (eVarF 4) (eC (.int 3)))) (sApp 2 [] (eVarF 3)) sNext)
  (sSeq (sIf (tOr2 (tVal (eOp2 dEq (eVarF 4) (eC (.int 3)))) (tVal (eOp2 dEq (eVarF 4) (eC (.int 4))))) (sApp 2 [] (eCall (f__law_pick A0 A1) 2 (aCons (eVarF 0) (aCons (eLst (aCons (eC (.str "x")) (aCons (eC (.str "a")) (aCons (eC (.str "b")) (aCons (eC (.str "y")) aNil))))) aNil)))) sNext)
  (sIf (tVal (eOp2 dEq (eVarF 4) (eC (.int 4)))) (sApp 2 [] (eVarF 3)) sNext)))))
  (sSeq (sIf (tVal (eOp2 dEq (eCall (f__law_take A0 A1) 2 (aCons (eVarF 0) (aCons (eC (.int 3)) aNil))) (eC (.int 2)))) (sApp 2 [] (eCall (f__law_pick A0 A1) 2 (aCons (eVarF 0) (aCons (eLst (aCons (eC (.str "x")) (aCons (eC (.str "a")) (aCons (eC (.str "b")) (aCons (eC (.str "y")) aNil))))) aNil)))) sNext)
  (sRet (eCB dTuple (aCons (eVar 2) aNil))))))
def f__law_edit (A0 A1 : Addr) : List D → M JS D := runD 5 (m__law_edit A0 A1)
theorem d__law_edit (G : HF K mg base) (A0 A1 : Addr) : FnD ⟨P, w, K, mg⟩ base 4 (jarW A0 A1) "_law_edit" 2 (f__law_edit A0 A1) := by
  obtain ⟨fd, F⟩ := G.c.def_ 18 (d := dd "_law_edit" 25) rfl
  exact fnD_of F (m__law_edit' G) s__law_edit rfl rfl (fun _ _ _ _ _ _ us hl => match us, hl with | [_, _], _ => rfl) fun cdv A outer s H E C F =>
  (dss_cons (ds_asgF (df_lst da_nil) F.nd)
  (dss_cons (ds_for F.po F.calm (di_seq de_varF) (dg_name F.nd) (dss_cons (ds_asg (de_call F (d__law_take G A0 A1) (da_cons de_varF (da_cons de_int da_nil))) F.nd)
  (dss_cons (ds_if (dt_cmp op_lt v2_lt de_varF de_int (nomark _)) (dss_one (ds_app de_varF)) dss_nil)
  (dss_cons (ds_if ((dw_or (dt_cmp (op_eqD F.u64) v2_eq de_varF de_int (nomark _)) (dw_or1 (dt_cmp (op_eqD F.u64) v2_eq de_varF de_int (nomark _))))).dt (dss_one (ds_app (de_call F (d__law_pick G A0 A1) (da_cons de_varF (da_cons ((df_lst (da_cons de_str (da_cons de_str (da_cons de_str (da_cons de_str da_nil))))).de fun _ _ _ _ => lst_ns) da_nil))))) dss_nil)
  (dss_one (ds_if (dt_cmp (op_eqD F.u64) v2_eq de_varF de_int (nomark _)) (dss_one (ds_app de_varF)) dss_nil))))))
  (dss_cons (ds_if (dt_cmp (op_eqD F.u64) v2_eq (de_call F (d__law_take G A0 A1) (da_cons de_varF (da_cons de_int da_nil))) de_int (nomark _)) (dss_one (ds_app (de_call F (d__law_pick G A0 A1) (da_cons de_varF (da_cons ((df_lst (da_cons de_str (da_cons de_str (da_cons de_str (da_cons de_str da_nil))))).de fun _ _ _ _ => lst_ns) da_nil))))) dss_nil)
  (dss_one (ds_ret (de_callT call_tupleZ vn_tuple (b_tuple G) (da_cons de_var da_nil)))))))
theorem s__law_kept : FnScope ["base", "ours", "theirs", "left", "right", "kept", "pair", "other"] ["base", "ours", "theirs"] (defScope (top 26)) := ⟨rfl, rfl, rfl, by decide +kernel, rfl, by decide +kernel, by decide +kernel⟩
def m__law_kept : En JS Fl :=
  (sSeq (sAsg 3 [] (eCall f__law_align 2 (aCons (eVarF 0) (aCons (eVarF 1) aNil))))
  (sSeq (sAsg 4 [] (eCall f__law_align 2 (aCons (eVarF 0) (aCons (eVarF 2) aNil))))
  (sSeq (sAsgF 5 [] (eLst aNil))
  (sSeq (sFor [] (iSeq (eVarF 3)) (tgN 6) (sFor [] (iSeq (eVarF 4)) (tgN 7) (sIf (tVal (eOp2 dEq (eOp2 dIx (eVarF 7) (eC (.int 0))) (eOp2 dIx (eVarF 6) (eC (.int 0))))) (sApp 5 [] (eTup (aCons (eOp2 dIx (eVarF 6) (eC (.int 0))) (aCons (eOp2 dIx (eVarF 6) (eC (.int 1))) (aCons (eOp2 dIx (eVarF 7) (eC (.int 1))) aNil))))) sNext)))
  (sRet (eCB dTuple (aCons (eVar 5) aNil)))))))
def f__law_kept : List D → M JS D := runD 8 (m__law_kept)
theorem d__law_kept (G : HF K mg base) (A0 A1 : Addr) : FnD ⟨P, w, K, mg⟩ base 4 (jarW A0 A1) "_law_kept" 3 (f__law_kept) := by
  obtain ⟨fd, F⟩ := G.c.def_ 19 (d := dd "_law_kept" 26) rfl
  exact fnD_of F (m__law_kept' G) s__law_kept rfl rfl (fun _ _ _ _ _ _ us hl => match us, hl with | [_, _, _], _ => rfl) fun cdv A outer s H E C F =>
  (dss_cons (ds_asg (de_call F (d__law_align G A0 A1) (da_cons de_varF (da_cons de_varF da_nil))) F.nd)
  (dss_cons (ds_asg (de_call F (d__law_align G A0 A1) (da_cons de_varF (da_cons de_varF da_nil))) F.nd)
  (dss_cons (ds_asgF (df_lst da_nil) F.nd)
  (dss_cons (ds_for F.po F.calm (di_seq de_varF) (dg_name F.nd) (dss_one (ds_for F.po F.calm (di_seq de_varF) (dg_name F.nd) (dss_one (ds_if (dt_cmp (op_eqD F.u64) v2_eq (de_ixr (ix_all F.u1) v2_ix de_varF de_int (fun _ _ => rfl)) (de_ixr (ix_all F.u1) v2_ix de_varF de_int (fun _ _ => rfl)) (nomark _)) (dss_one (ds_app (de_tup (da_cons (de_ixr (ix_all F.u1) v2_ix de_varF de_int (fun _ _ => rfl)) (da_cons (de_ixr (ix_all F.u1) v2_ix de_varF de_int (fun _ _ => rfl)) (da_cons (de_ixr (ix_all F.u1) v2_ix de_varF de_int (fun _ _ => rfl)) da_nil)))))) dss_nil)))))
  (dss_one (ds_ret (de_callT call_tupleZ vn_tuple (b_tuple G) (da_cons de_var da_nil))))))))
theorem s__law_parts : FnScope ["base", "ours", "theirs", "parts", "last", "row", "part"] ["base", "ours", "theirs"] (defScope (top 27)) := ⟨rfl, rfl, rfl, by decide +kernel, rfl, by decide +kernel, by decide +kernel⟩
def m__law_parts : En JS Fl :=
  (sSeq (sAsgF 3 [] (eLst aNil))
  (sSeq (sAsg 4 [] (eTup (aCons (eOp1 dNeg (eC (.int 1))) (aCons (eOp1 dNeg (eC (.int 1))) (aCons (eOp1 dNeg (eC (.int 1))) aNil)))))
  (sSeq (sFor [] (iSeq (eOp2 dAdd (eCall f__law_kept 3 (aCons (eVarF 0) (aCons (eVarF 1) (aCons (eVarF 2) aNil)))) (eTup (aCons (eTup (aCons (eCB dLen (aCons (eVarF 0) aNil)) (aCons (eCB dLen (aCons (eVarF 1) aNil)) (aCons (eCB dLen (aCons (eVarF 2) aNil)) aNil)))) aNil)))) (tgN 5) (sSeq (sAsg 6 [] (eTup (aCons (eCut (eVarF 0) (oSome (eOp2 dAdd (eOp2 dIx (eVarF 4) (eC (.int 0))) (eC (.int 1)))) (oSome (eOp2 dIx (eVarF 5) (eC (.int 0))))) (aCons (eCut (eVarF 1) (oSome (eOp2 dAdd (eOp2 dIx (eVarF 4) (eC (.int 1))) (eC (.int 1)))) (oSome (eOp2 dIx (eVarF 5) (eC (.int 1))))) (aCons (eCut (eVarF 2) (oSome (eOp2 dAdd (eOp2 dIx (eVarF 4) (eC (.int 2))) (eC (.int 1)))) (oSome (eOp2 dIx (eVarF 5) (eC (.int 2))))) aNil)))))
  (sSeq (sApp 3 [] (eVarF 6))
  (sAsg 4 [] (eVarF 5)))))
  (sRet (eVar 3)))))
def f__law_parts : List D → M JS D := runD 7 (m__law_parts)
theorem d__law_parts (G : HF K mg base) (A0 A1 : Addr) : FnD ⟨P, w, K, mg⟩ base 5 (jarW A0 A1) "_law_parts" 3 (f__law_parts) := by
  obtain ⟨fd, F⟩ := G.c.def_ 20 (d := dd "_law_parts" 27) rfl
  exact fnD_of F (m__law_parts' G) s__law_parts rfl rfl (fun _ _ _ _ _ _ us hl => match us, hl with | [_, _, _], _ => rfl) fun cdv A outer s H E C F =>
  (dss_cons (ds_asgF (df_lst da_nil) F.nd)
  (dss_cons (ds_asg (de_tup (da_cons (de_un un_neg v1_neg de_int) (da_cons (de_un un_neg v1_neg de_int) (da_cons (de_un un_neg v1_neg de_int) da_nil)))) F.nd)
  (dss_cons (ds_for F.po F.calm (di_seq (de_bin op_addA v2_add (de_call F (d__law_kept G A0 A1) (da_cons de_varF (da_cons de_varF (da_cons de_varF da_nil)))) (de_tup (da_cons (de_tup (da_cons (de_callB call_len vn_len (b_len G) (da_cons de_varF da_nil)) (da_cons (de_callB call_len vn_len (b_len G) (da_cons de_varF da_nil)) (da_cons (de_callB call_len vn_len (b_len G) (da_cons de_varF da_nil)) da_nil)))) da_nil)))) (dg_name F.nd) (dss_cons (ds_asg (de_tup (da_cons (de_slice de_varF (do_some (de_bin op_addA v2_add (de_ixr (ix_all F.u1) v2_ix de_varF de_int (fun _ _ => rfl)) de_int)) (do_some (de_ixr (ix_all F.u1) v2_ix de_varF de_int (fun _ _ => rfl)))) (da_cons (de_slice de_varF (do_some (de_bin op_addA v2_add (de_ixr (ix_all F.u1) v2_ix de_varF de_int (fun _ _ => rfl)) de_int)) (do_some (de_ixr (ix_all F.u1) v2_ix de_varF de_int (fun _ _ => rfl)))) (da_cons (de_slice de_varF (do_some (de_bin op_addA v2_add (de_ixr (ix_all F.u1) v2_ix de_varF de_int (fun _ _ => rfl)) de_int)) (do_some (de_ixr (ix_all F.u1) v2_ix de_varF de_int (fun _ _ => rfl)))) da_nil)))) F.nd)
  (dss_cons (ds_app de_varF)
  (dss_one (ds_asg de_varF F.nd)))))
  (dss_one (ds_ret de_var)))))
theorem s__law_clash : FnScope ["part"] ["part"] (defScope (top 28)) := ⟨rfl, rfl, rfl, by decide +kernel, rfl, by decide +kernel, by decide +kernel⟩
def m__law_clash : En JS Fl :=
  (sRet (eAnd2 (eOp2 dNe (eOp2 dIx (eVarF 0) (eC (.int 1))) (eOp2 dIx (eVarF 0) (eC (.int 0)))) (eAnd2 (eOp2 dNe (eOp2 dIx (eVarF 0) (eC (.int 2))) (eOp2 dIx (eVarF 0) (eC (.int 0)))) (eOp2 dNe (eOp2 dIx (eVarF 0) (eC (.int 1))) (eOp2 dIx (eVarF 0) (eC (.int 2)))))))
def f__law_clash : List D → M JS D := runD 1 (m__law_clash)
theorem d__law_clash (G : HF K mg base) (A0 A1 : Addr) : FnD ⟨P, w, K, mg⟩ base 2 (jarW A0 A1) "_law_clash" 1 (f__law_clash) := by
  obtain ⟨fd, F⟩ := G.c.def_ 21 (d := dd "_law_clash" 28) rfl
  exact fnD_of F (m__law_clash' G) s__law_clash rfl rfl (fun _ _ _ _ _ _ us hl => match us, hl with | [_], _ => rfl) fun cdv A outer s H E C F =>
  (dss_one (ds_ret (de_and (de_cmp (op_neD F.u64) v2_ne (de_ixr (ix_all F.u1) v2_ix de_varF de_int (fun _ _ => rfl)) (de_ixr (ix_all F.u1) v2_ix de_varF de_int (fun _ _ => rfl)) (nomark _)) (de_and (de_cmp (op_neD F.u64) v2_ne (de_ixr (ix_all F.u1) v2_ix de_varF de_int (fun _ _ => rfl)) (de_ixr (ix_all F.u1) v2_ix de_varF de_int (fun _ _ => rfl)) (nomark _)) (de_one (de_cmp (op_neD F.u64) v2_ne (de_ixr (ix_all F.u1) v2_ix de_varF de_int (fun _ _ => rfl)) (de_ixr (ix_all F.u1) v2_ix de_varF de_int (fun _ _ => rfl)) (nomark _)))))))
theorem s__law_chosen : FnScope ["part", "side"] ["part", "side"] (defScope (top 29)) := ⟨rfl, rfl, rfl, by decide +kernel, rfl, by decide +kernel, by decide +kernel⟩
def m__law_chosen : En JS Fl :=
  (sSeq (sIf (tVal (eOp2 dEq (eOp2 dIx (eVarF 0) (eC (.int 1))) (eOp2 dIx (eVarF 0) (eC (.int 0))))) (sRet (eOp2 dIx (eVarF 0) (eC (.int 2)))) sNext)
  (sSeq (sIf (tOr2 (tVal (eOp2 dEq (eOp2 dIx (eVarF 0) (eC (.int 2))) (eOp2 dIx (eVarF 0) (eC (.int 0))))) (tVal (eOp2 dEq (eOp2 dIx (eVarF 0) (eC (.int 1))) (eOp2 dIx (eVarF 0) (eC (.int 2)))))) (sRet (eOp2 dIx (eVarF 0) (eC (.int 1)))) sNext)
  (sRet (eOp2 dIx (eVarF 0) (eVarF 1)))))
def f__law_chosen : List D → M JS D := runD 2 (m__law_chosen)
theorem d__law_chosen (G : HF K mg base) (A0 A1 : Addr) : FnD ⟨P, w, K, mg⟩ base 2 (jarW A0 A1) "_law_chosen" 2 (f__law_chosen) := by
  obtain ⟨fd, F⟩ := G.c.def_ 22 (d := dd "_law_chosen" 29) rfl
  exact fnD_of F (m__law_chosen' G) s__law_chosen rfl rfl (fun _ _ _ _ _ _ us hl => match us, hl with | [_, _], _ => rfl) fun cdv A outer s H E C F =>
  (dss_cons (ds_if (dt_cmp (op_eqD F.u64) v2_eq (de_ixr (ix_all F.u1) v2_ix de_varF de_int (fun _ _ => rfl)) (de_ixr (ix_all F.u1) v2_ix de_varF de_int (fun _ _ => rfl)) (nomark _)) (dss_one (ds_ret (de_ixr (ix_all F.u1) v2_ix de_varF de_int (fun _ _ => rfl)))) dss_nil)
  (dss_cons (ds_if ((dw_or (dt_cmp (op_eqD F.u64) v2_eq (de_ixr (ix_all F.u1) v2_ix de_varF de_int (fun _ _ => rfl)) (de_ixr (ix_all F.u1) v2_ix de_varF de_int (fun _ _ => rfl)) (nomark _)) (dw_or1 (dt_cmp (op_eqD F.u64) v2_eq (de_ixr (ix_all F.u1) v2_ix de_varF de_int (fun _ _ => rfl)) (de_ixr (ix_all F.u1) v2_ix de_varF de_int (fun _ _ => rfl)) (nomark _))))).dt (dss_one (ds_ret (de_ixr (ix_all F.u1) v2_ix de_varF de_int (fun _ _ => rfl)))) dss_nil)
  (dss_one (ds_ret (de_ixr (ix_all F.u1) v2_ix de_varF de_varF (fun _ _ => rfl))))))
theorem s__law_merged : FnScope ["base", "ours", "theirs", "side", "kept", "parts", "lines", "k"] ["base", "ours", "theirs", "side"] (defScope (top 30)) := ⟨rfl, rfl, rfl, by decide +kernel, rfl, by decide +kernel, by decide +kernel⟩
def m__law_merged : En JS Fl :=
  (sSeq (sAsg 4 [] (eCall f__law_kept 3 (aCons (eVarF 0) (aCons (eVarF 1) (aCons (eVarF 2) aNil)))))
  (sSeq (sAsg 5 [] (eCall f__law_parts 3 (aCons (eVarF 0) (aCons (eVarF 1) (aCons (eVarF 2) aNil)))))
  (sSeq (sAsg 6 [] (eTup aNil))
  (sSeq (sFor [] (iOf dRng1 (aCons (eCB dLen (aCons (eVarF 5) aNil)) aNil)) (tgN 7) (sSeq (sAsg 6 [] (eOp2 dAdd (eVarF 6) (eCall f__law_chosen 2 (aCons (eOp2 dIx (eVarF 5) (eVarF 7)) (aCons (eVarF 3) aNil)))))
  (sIf (tVal (eOp2 dLt (eVarF 7) (eCB dLen (aCons (eVarF 4) aNil)))) (sAsg 6 [] (eOp2 dAdd (eVarF 6) (eTup (aCons (eOp2 dIx (eVarF 0) (eOp2 dIx (eOp2 dIx (eVarF 4) (eVarF 7)) (eC (.int 0)))) aNil)))) sNext)))
  (sRet (eVarF 6))))))
def f__law_merged : List D → M JS D := runD 8 (m__law_merged)
theorem d__law_merged (G : HF K mg base) (A0 A1 : Addr) : FnD ⟨P, w, K, mg⟩ base 6 (jarW A0 A1) "_law_merged" 4 (f__law_merged) := by
  obtain ⟨fd, F⟩ := G.c.def_ 23 (d := dd "_law_merged" 30) rfl
  exact fnD_of F (m__law_merged' G) s__law_merged rfl rfl (fun _ _ _ _ _ _ us hl => match us, hl with | [_, _, _, _], _ => rfl) fun cdv A outer s H E C F =>
  (dss_cons (ds_asg (de_call F (d__law_kept G A0 A1) (da_cons de_varF (da_cons de_varF (da_cons de_varF da_nil)))) F.nd)
  (dss_cons (ds_asg (de_call F (d__law_parts G A0 A1) (da_cons de_varF (da_cons de_varF (da_cons de_varF da_nil)))) F.nd)
  (dss_cons (ds_asg (de_tup da_nil) F.nd)
  (dss_cons (ds_for F.po F.calm (di_range1 (b_range G) (da_cons (de_callB call_len vn_len (b_len G) (da_cons de_varF da_nil)) da_nil)) (dg_name F.nd) (dss_cons (ds_asg (de_bin op_addA v2_add de_varF (de_call F (d__law_chosen G A0 A1) (da_cons (de_ixr (ix_all F.u1) v2_ix de_varF de_varF (fun _ _ => rfl)) (da_cons de_varF da_nil)))) F.nd)
  (dss_one (ds_if (dt_cmp op_lt v2_lt de_varF (de_callB call_len vn_len (b_len G) (da_cons de_varF da_nil)) (nomark _)) (dss_one (ds_asg (de_bin op_addA v2_add de_varF (de_tup (da_cons (de_ixr (ix_all F.u1) v2_ix de_varF (de_ixr (ix_all F.u1) v2_ix (de_ixr (ix_all F.u1) v2_ix de_varF de_varF (fun _ _ => rfl)) de_int (fun _ _ => rfl)) (fun _ _ => rfl)) da_nil))) F.nd)) dss_nil))))
  (dss_one (ds_ret de_varF))))))
theorem s__law_refused : FnScope ["base", "ours", "theirs", "e"] ["base", "ours", "theirs"] (defScope (top 31)) := ⟨rfl, rfl, rfl, by decide +kernel, rfl, by decide +kernel, by decide +kernel⟩
def m__law_refused : En JS Fl :=
  (sSeq (sTryN 3 [("BadRow", .two "table" "index"), ("TooMany", .two "what" "limit")] f_merge_for 4 (aCons (eVarF 0) (aCons (eVarF 1) (aCons (eVarF 2) (aCons (eC (.str "ours")) aNil)))))
  (sRet (eTup (aCons (eC (.str "let")) (aCons (eC (.int 0)) aNil)))))
def f__law_refused : List D → M JS D := runD 4 (m__law_refused)
theorem d__law_refused (G : HF K mg base) (A0 A1 : Addr) : FnD ⟨P, w, K, mg⟩ base 7 (jarW A0 A1) "_law_refused" 3 (f__law_refused) := by
  obtain ⟨fd, F⟩ := G.c.def_ 24 (d := dd "_law_refused" 31) rfl
  exact fnD_of F (m__law_refused' G) s__law_refused rfl rfl (fun _ _ _ _ _ _ us hl => match us, hl with | [_, _, _], _ => rfl) fun cdv A outer s H E C F =>
  (dss_cons (ds_tryN F (d_merge_for G A0 A1) (fun _ _ Ft => (da_cons de_varF (da_cons de_varF (da_cons de_varF (da_cons de_str da_nil))))) (.two (t_BadRow G) (.two (t_TooMany G) .nil (by intro q h; cases h)) (by intro q h; simp only [List.mem_cons, List.not_mem_nil, or_false] at h; rcases h with rfl <;> first | exact n_TooMany_BadRow G)))
  (dss_one (ds_ret (de_tup (da_cons de_str (da_cons de_int da_nil))))))
theorem s_law : FnScope ["script", "jar", "base", "ours", "theirs", "kept", "first", "second", "clashes", "shift", "answer", "long", "part"] ["script"] (defScope (top 32)) := ⟨rfl, rfl, rfl, by decide +kernel, rfl, by decide +kernel, by decide +kernel⟩
def m_law (A0 A1 : Addr) : En JS Fl :=
  (sSeq (sAsg 2 [] (eCall (f__law_lines A0 A1) 2 (aCons (eVarF 1) (aCons (eC (.int 8)) aNil))))
  (sSeq (sAsg 3 [] (eCall (f__law_edit A0 A1) 2 (aCons (eVarF 1) (aCons (eVarF 2) aNil))))
  (sSeq (sAsg 4 [] (eCall (f__law_edit A0 A1) 2 (aCons (eVarF 1) (aCons (eVarF 2) aNil))))
  (sSeq (sIf (tVal (eOp2 dEq (eCall (f__law_take A0 A1) 2 (aCons (eVarF 1) (aCons (eC (.int 3)) aNil))) (eC (.int 2)))) (sAsg 4 [] (eCall (f__law_lines A0 A1) 2 (aCons (eVarF 1) (aCons (eC (.int 8)) aNil)))) sNext)
  (sSeq (sAsg 5 [] (eCall f__law_kept 3 (aCons (eVarF 2) (aCons (eVarF 3) (aCons (eVarF 4) aNil)))))
  (sSeq (sIf (tNot1 (tVal (eCall (f__law_same 8) 2 (aCons (eCall f_kept_lines 3 (aCons (eVarF 2) (aCons (eVarF 3) (aCons (eVarF 4) aNil)))) (aCons (eVarF 5) aNil))))) (sRet (eC (.bl false))) sNext)
  (sSeq (sAsg 6 [] (eCall f_merge_for 4 (aCons (eVarF 2) (aCons (eVarF 3) (aCons (eVarF 4) (aCons (eC (.str "ours")) aNil))))))
  (sSeq (sAsg 7 [] (eCall f_merge_for 4 (aCons (eVarF 2) (aCons (eVarF 3) (aCons (eVarF 4) (aCons (eC (.str "theirs")) aNil))))))
  (sSeq (sIf (tNot1 (tVal (eCall (f__law_same 8) 2 (aCons (eVarF 6) (aCons (eCall f__law_merged 4 (aCons (eVarF 2) (aCons (eVarF 3) (aCons (eVarF 4) (aCons (eC (.int 1)) aNil))))) aNil))))) (sRet (eC (.bl false))) sNext)
  (sSeq (sIf (tNot1 (tVal (eCall (f__law_same 8) 2 (aCons (eVarF 7) (aCons (eCall f__law_merged 4 (aCons (eVarF 2) (aCons (eVarF 3) (aCons (eVarF 4) (aCons (eC (.int 2)) aNil))))) aNil))))) (sRet (eC (.bl false))) sNext)
  (sSeq (sAsgF 8 [] (eLc [] [12] (iSeq (eCall f__law_parts 3 (aCons (eVarF 2) (aCons (eVarF 3) (aCons (eVarF 4) aNil))))) (tgN 12) (tVal (eCall f__law_clash 1 (aCons (eVarF 12) aNil))) (eVarF 12)))
  (sSeq (sAsg 9 [8] (eCB dSum (aCons (eLc [8] [12] (iSeq (eVar 8)) (tgN 12) tYesD (eOp2 dSub (eCB dLen (aCons (eOp2 dIx (eVarF 12) (eC (.int 1))) aNil)) (eCB dLen (aCons (eOp2 dIx (eVarF 12) (eC (.int 2))) aNil)))) aNil)))
  (sSeq (sIf (tVal (eOp2 dNe (eOp2 dSub (eCB dLen (aCons (eVarF 6) aNil)) (eCB dLen (aCons (eVarF 7) aNil))) (eVarF 9))) (sRet (eC (.bl false))) sNext)
  (sSeq (sAsg 10 [] (eCall f_merge 3 (aCons (eVarF 2) (aCons (eVarF 3) (aCons (eVarF 4) aNil)))))
  (sSeq (sIf (tAnd2 (tVal (eOp2 dEq (eCB dLen (aCons (eVar 8) aNil)) (eC (.int 0)))) (tOr2 (tNot1 (tVal (eCall (f__law_same 8) 2 (aCons (eVarF 6) (aCons (eVarF 7) aNil))))) (tNot1 (tVal (eCall (f__law_same 8) 2 (aCons (eVarF 10) (aCons (eTup (aCons (eC (.str "merged")) (aCons (eVarF 6) aNil))) aNil))))))) (sRet (eC (.bl false))) sNext)
  (sSeq (sIf (tAnd2 (tVal (eOp2 dGt (eCB dLen (aCons (eVar 8) aNil)) (eC (.int 0)))) (tVal (eOp2 dNe (eOp2 dIx (eVarF 10) (eC (.int 0))) (eC (.str "clash"))))) (sRet (eC (.bl false))) sNext)
  (sSeq (sAsg 11 [] (eOp2 dMulT (eTup (aCons (eC (.str "a")) aNil)) (eC (.int 21))))
  (sSeq (sIf (tOr2 (tVal (eOp2 dNe (eCall f__law_refused 3 (aCons (eVarF 2) (aCons (eVarF 3) (aCons (eVarF 11) aNil)))) (eTup (aCons (eC (.str "theirs")) (aCons (eC (.int 20)) aNil))))) (tVal (eOp2 dNe (eCall f__law_refused 3 (aCons (eVarF 2) (aCons (eVarF 3) (aCons (eCut (eVarF 11) oNone (oSome (eC (.int 20)))) aNil)))) (eTup (aCons (eC (.str "let")) (aCons (eC (.int 0)) aNil)))))) (sRet (eC (.bl false))) sNext)
  (sSeq (sIf (tOr2 (tVal (eOp2 dNe (eCall f__law_refused 3 (aCons (eVarF 2) (aCons (eCB dList2 (aCons (eVarF 3) aNil)) (aCons (eVarF 11) aNil)))) (eTup (aCons (eC (.str "ours")) (aCons (eOp1 dNeg (eC (.int 1))) aNil))))) (tVal (eOp2 dNe (eCall f__law_refused 3 (aCons (eOp2 dAdd (eVarF 2) (eTup (aCons (eC .non) aNil))) (aCons (eC (.int 5)) (aCons (eC (.int 5)) aNil)))) (eTup (aCons (eC (.str "base")) (aCons (eCB dLen (aCons (eVarF 2) aNil)) aNil)))))) (sRet (eC (.bl false))) sNext)
  (sRet (eOp2 dEq (eCall f__law_refused 3 (aCons (eVarF 2) (aCons (eVarF 3) (aCons (eOp2 dAdd (eVarF 4) (eTup (aCons (eC (.int 5)) aNil))) aNil)))) (eTup (aCons (eC (.str "theirs")) (aCons (eCB dLen (aCons (eVarF 4) aNil)) aNil))))))))))))))))))))))))
-- level 11
-- law at 25
theorem d_law (G : HF K mg base) (hd : LawD f__law_jar 13 m_law) {fd : FuncData} (F : FunD K "law" "law" (defArgs (top 32)) (defBody (top 32)) (defScope (top 32)) [] [] (He.ga K "law") fd) : FnOk P w K mg base CX0 11 (He.ga K "law") fd ["script"] (spLaw K) :=
  law_of (lv := 10) (N := ["script", "jar", "base", "ours", "theirs", "kept", "first", "second", "clashes", "shift", "answer", "long", "part"]) F s_law rfl (d__law_jar G) hd fun cdv A outer s H E A0 A1 C F =>
  (dss_cons (ds_asg (de_call F (d__law_lines G A0 A1) (da_cons de_varF (da_cons de_int da_nil))) F.nd)
  (dss_cons (ds_asg (de_call F (d__law_edit G A0 A1) (da_cons de_varF (da_cons de_varF da_nil))) F.nd)
  (dss_cons (ds_asg (de_call F (d__law_edit G A0 A1) (da_cons de_varF (da_cons de_varF da_nil))) F.nd)
  (dss_cons (ds_if (dt_cmp (op_eqD F.u64) v2_eq (de_call F (d__law_take G A0 A1) (da_cons de_varF (da_cons de_int da_nil))) de_int (nomark _)) (dss_one (ds_asg (de_call F (d__law_lines G A0 A1) (da_cons de_varF (da_cons de_int da_nil))) F.nd)) dss_nil)
  (dss_cons (ds_asg (de_call F (d__law_kept G A0 A1) (da_cons de_varF (da_cons de_varF (da_cons de_varF da_nil)))) F.nd)
  (dss_cons (ds_if (dt_not (dt_val (de_call F (d__law_same G A0 A1 8) (da_cons (de_call F (d_kept_lines G A0 A1) (da_cons de_varF (da_cons de_varF (da_cons de_varF da_nil)))) (da_cons de_varF da_nil))))) (dss_one (ds_ret de_bl)) dss_nil)
  (dss_cons (ds_asg (de_call F (d_merge_for G A0 A1) (da_cons de_varF (da_cons de_varF (da_cons de_varF (da_cons de_str da_nil))))) F.nd)
  (dss_cons (ds_asg (de_call F (d_merge_for G A0 A1) (da_cons de_varF (da_cons de_varF (da_cons de_varF (da_cons de_str da_nil))))) F.nd)
  (dss_cons (ds_if (dt_not (dt_val (de_call F (d__law_same G A0 A1 8) (da_cons de_varF (da_cons (de_call F (d__law_merged G A0 A1) (da_cons de_varF (da_cons de_varF (da_cons de_varF (da_cons de_int da_nil))))) da_nil))))) (dss_one (ds_ret de_bl)) dss_nil)
  (dss_cons (ds_if (dt_not (dt_val (de_call F (d__law_same G A0 A1 8) (da_cons de_varF (da_cons (de_call F (d__law_merged G A0 A1) (da_cons de_varF (da_cons de_varF (da_cons de_varF (da_cons de_int da_nil))))) da_nil))))) (dss_one (ds_ret de_bl)) dss_nil)
  (dss_cons (ds_setLc [] [("part", 12)] F (di_seq (de_call F (d__law_parts G A0 A1) (da_cons de_varF (da_cons de_varF (da_cons de_varF da_nil))))) (fun _ _ _ _ _ _ F' => (dg_name F'.nd)) (fun _ _ _ _ _ _ F' => (dts_one (dt_val (de_call F' (d__law_clash G A0 A1) (da_cons de_varF da_nil))))) (fun _ _ _ _ _ _ F' => de_varF))
  (dss_cons (ds_asg (de_callB (cr_sum F.calm) vn_sum (b_sum G) (da_cons ((df_lc [8] [("part", 12)] F (di_seq de_var) (fun _ _ _ _ _ _ F' => (dg_name F'.nd)) (fun _ _ _ _ _ _ F' => dts_nil) (fun _ _ _ _ _ _ F' => (de_bin op_sub v2_sub (de_callB call_len vn_len (b_len G) (da_cons (de_ixr (ix_all F'.u1) v2_ix de_varF de_int (fun _ _ => rfl)) da_nil)) (de_callB call_len vn_len (b_len G) (da_cons (de_ixr (ix_all F'.u1) v2_ix de_varF de_int (fun _ _ => rfl)) da_nil))))).de lc_ns) da_nil)) F.nd)
  (dss_cons (ds_if (dt_cmp (op_neD F.u64) v2_ne (de_bin op_sub v2_sub (de_callB call_len vn_len (b_len G) (da_cons de_varF da_nil)) (de_callB call_len vn_len (b_len G) (da_cons de_varF da_nil))) de_varF (nomark _)) (dss_one (ds_ret de_bl)) dss_nil)
  (dss_cons (ds_asg (de_call F (d_merge G A0 A1) (da_cons de_varF (da_cons de_varF (da_cons de_varF da_nil)))) F.nd)
  (dss_cons (ds_if ((dw_and (dt_cmp (op_eqD F.u64) v2_eq (de_callB call_len vn_len (b_len G) (da_cons de_var da_nil)) de_int (nomark _)) (dw_and1 ((dw_or (dt_not (dt_val (de_call F (d__law_same G A0 A1 8) (da_cons de_varF (da_cons de_varF da_nil))))) (dw_or1 (dt_not (dt_val (de_call F (d__law_same G A0 A1 8) (da_cons de_varF (da_cons (de_tup (da_cons de_str (da_cons de_varF da_nil))) da_nil)))))))).dt))).dt (dss_one (ds_ret de_bl)) dss_nil)
  (dss_cons (ds_if ((dw_and (dt_cmp op_gt v2_gt (de_callB call_len vn_len (b_len G) (da_cons de_var da_nil)) de_int (nomark _)) (dw_and1 (dt_cmp (op_neD F.u64) v2_ne (de_ixr (ix_all F.u1) v2_ix de_varF de_int (fun _ _ => rfl)) de_str (nomark _))))).dt (dss_one (ds_ret de_bl)) dss_nil)
  (dss_cons (ds_asg (de_bin op_repTZ v2_mulT (de_tup (da_cons de_str da_nil)) de_int) F.nd)
  (dss_cons (ds_if ((dw_or (dt_cmp (op_neD F.u64) v2_ne (de_call F (d__law_refused G A0 A1) (da_cons de_varF (da_cons de_varF (da_cons de_varF da_nil)))) (de_tup (da_cons de_str (da_cons de_int da_nil))) (nomark _)) (dw_or1 (dt_cmp (op_neD F.u64) v2_ne (de_call F (d__law_refused G A0 A1) (da_cons de_varF (da_cons de_varF (da_cons (de_slice de_varF do_none (do_some de_int)) da_nil)))) (de_tup (da_cons de_str (da_cons de_int da_nil))) (nomark _))))).dt (dss_one (ds_ret de_bl)) dss_nil)
  (dss_cons (ds_if ((dw_or (dt_cmp (op_neD F.u64) v2_ne (de_call F (d__law_refused G A0 A1) (da_cons de_varF (da_cons ((df_callT (call_list2 F.calm) vnf_list2 (b_list G) (da_cons de_varF da_nil)).de list2_ns) (da_cons de_varF da_nil)))) (de_tup (da_cons de_str (da_cons (de_un un_neg v1_neg de_int) da_nil))) (nomark _)) (dw_or1 (dt_cmp (op_neD F.u64) v2_ne (de_call F (d__law_refused G A0 A1) (da_cons (de_bin op_addA v2_add de_varF (de_tup (da_cons de_non da_nil))) (da_cons de_int (da_cons de_int da_nil)))) (de_tup (da_cons de_str (da_cons (de_callB call_len vn_len (b_len G) (da_cons de_varF da_nil)) da_nil))) (nomark _))))).dt (dss_one (ds_ret de_bl)) dss_nil)
  (dss_one (ds_ret (de_cmp (op_eqD F.u64) v2_eq (de_call F (d__law_refused G A0 A1) (da_cons de_varF (da_cons de_varF (da_cons (de_bin op_addA v2_add de_varF (de_tup (da_cons de_int da_nil))) da_nil)))) (de_tup (da_cons de_str (da_cons (de_callB call_len vn_len (b_len G) (da_cons de_varF da_nil)) da_nil))) (nomark _)))))))))))))))))))))))
end
end
end HD
namespace HD
open PySem PySem.Spec PyProof.Rows L2 DD
local macro_rules
  | `(tactic| simp! only [$a,*]) => `(tactic| simp only [q_bind_ret, q_bind_fail, q_noex_ret, q_ofO_some, q_ofO_none, q_bind_exn, q_sNext, q_kSeq1, q_kSeq2, q_kSeq3, q_kSeq4, q_sSeq, q_kExpr, q_sExpr, q_kRet, q_sRet, q_sRetN, q_kIf1, q_kIf2, q_sIf, q_sBrk, q_sCnt, q_kAsg, q_sAsg, q_kAsgF, q_sAsgF, q_kOpt1, q_kOpt2, q_kAsgG, q_sAsgG, q_kApp1, q_kApp0, q_sApp, q_kPut4, q_kPut3, q_kPut2, q_kPut1, q_kPut0, q_sPut, q_kAdd1, q_kAdd0, q_sSAdd, q_kAug2i, q_kAug1, q_kAug0, q_sAug, q_kRaise1, q_kRaise2, q_sRaise, q_kFor, q_sFor, q_kForF1, q_kForF2, q_kForF3, q_kForF4, q_kForO, q_forD_nil, q_kRun1, q_kRun2, q_runD, q_kVar1, q_kVar2, q_kVar3, q_eVar, q_kVarF, q_eVarF, q_eC, q_kOp2b, q_kOp2a, q_eOp2, q_kOp1, q_eOp1, q_aNil, q_kConsb, q_kConsa, q_aCons, q_kTup1, q_kTup2, q_kTup3, q_kTup4, q_kTup0, q_eTup, q_kLst0, q_kLst1, q_kLst2, q_kLst3, q_eLst, q_kCB, q_eCB, q_kCall0, q_kCall1, q_kCall2, q_kCall3, q_kCall4, q_kCall5, q_kCall6, q_eCall, q_kCut2, q_kCut1, q_kCut0, q_eCut, q_oNone, q_kSome, q_oSome, q_kVal, q_tVal, q_kCh2, q_kCh1t, q_kCh1f, q_kCh0, q_kCha, q_eChain, q_kAnd1, q_kAnd2, q_tAnd2, q_kOr1, q_kOr2, q_tOr2, q_kNot, q_tNot1, q_kAndE1, q_kAndE2, q_eAnd2, q_kOrE1, q_kOrE2, q_eOr2, q_kNotE, q_eNot1, q_eIf, q_kOf, q_iOf, q_kIts, q_iSeq, q_kEnum, q_iEnum, q_kZip2, q_kZip, q_iZip, q_kLc2, q_eLc, q_tYesD, q_kInS1, q_kInS0, q_kInS, q_tInS, q_tgN, q_tgNil, q_tgCons, q_tgTup2, q_tgTup3, q_frz_nil, q_esc_nil, q_escI_nil, q_esc_int, q_esc_str, q_esc_bl, q_esc_non, q_esc_opq, q_wipeE1, q_wipeE2, q_rdo1a, q_rdo1b, q_rdo1c, q_dSub, q_dLt, q_dLe, q_dGt, q_dGe, q_dAddI, q_dNeg, q_ixT, q_ixL, q_at0, q_at1, q_at2, q_at3, q_lenS, q_lenT, q_lenL, q_itT, q_itL, q_itS, q_tupT, q_tupL, q_int, q_listL, q_listT, q_dct0, q_revL, q_kIdx, q_kIdxL, q_kIdxT, q_eIdxL, q_eIdxT, q_set0, q_keyS, q_keyI, q_cutT, q_cutL, q_max2, q_min2, q_isN0, q_isNot0, q_is_str, q_isNot_str, q_is_int, q_isNot_int, q_is_bl, q_isNot_bl, q_is_tup, q_isNot_tup, q_is_lst, q_isNot_lst, q_is_dct, q_isNot_dct, q_isi_str_bool, q_isi_str_int, q_isi_str_str, q_isi_str_tuple, q_isi_str_list, q_isi_str_dict, q_isi_int_bool, q_isi_int_int, q_isi_int_str, q_isi_int_tuple, q_isi_int_list, q_isi_int_dict, q_isi_bl_bool, q_isi_bl_int, q_isi_bl_str, q_isi_bl_tuple, q_isi_bl_list, q_isi_bl_dict, q_isi_tup_bool, q_isi_tup_int, q_isi_tup_str, q_isi_tup_tuple, q_isi_tup_list, q_isi_tup_dict, q_isi_lst_bool, q_isi_lst_int, q_isi_lst_str, q_isi_lst_tuple, q_isi_lst_list, q_isi_lst_dict, q_isi_dct_bool, q_isi_dct_int, q_isi_dct_str, q_isi_dct_tuple, q_isi_dct_list, q_isi_dct_dict, q_isi_non_bool, q_isi_non_int, q_isi_non_str, q_isi_non_tuple, q_isi_non_list, q_isi_non_dict, q_cmpS, q_cmpI, q_cmpB, q_cmpN, q_eqvSS, q_eqvII, q_eqvBB, q_eqvSN, q_eqvSI, q_dEqII, q_dNeII, q_dEqSS, q_dNeSS, q_hasSS, q_hasII, q_inStrs, q_notInStrs, q_inInts, q_notInInts, List.map_cons, List.map_nil, List.length_cons, List.length_nil, List.replicate_succ, List.replicate_zero, List.cons_append, List.nil_append, List.getElem?_cons_zero, List.getElem?_cons_succ, List.set_cons_zero, List.set_cons_succ, Nat.reduceAdd, Nat.reduceSub, List.mapIdx_cons, List.mapIdx_nil, Option.bind_some, Option.map_some, Bool.not_true, Bool.not_false, decide_true, decide_false, Int.reduceLT, Int.reduceLE, Int.reduceEq, Int.reduceAdd, Int.reduceSub, Int.reduceNeg, Int.reduceMul, str_inj, String.reduceEq, $a,*])
section
variable {A0 A1 : Addr} (ne : A0 ≠ A1)
include ne in
theorem r_take (s : JS) {n : Int} (hn : 0 < n) (hn2 : n < 1073741824) : ∃ r s', f__law_take A0 A1 [.opq (.ref A0), .int n] s = .ok (.int r) s' ∧ 0 ≤ r ∧ r < n := by
  obtain ⟨k, cells⟩ := s
  unfold f__law_take m__law_take
  by_cases h0 : cells.length = 0
  · have hd : decide (((cells.length : Nat) : Int) = 0) = true := decide_eq_true (by omega)
    refine ⟨0, ⟨((k : Int) + 1).toNat, cells⟩, ?_, Int.le_refl _, hn⟩
    simp! only [q_bs, q_ret, q_eIxJ, q_kIxJ, q_ixJ0, q_ixJ1, q_sPutJ, q_kPutJ, q_kPutJ1, q_putJ0 (show (0 : Int) ≤ (k : Int) + 1 by omega), q_eLenJ, q_lenJ, hd]
  · have hd : decide (((cells.length : Nat) : Int) = 0) = false := decide_eq_false (by omega)
    have hm : dMod (.int (k : Int)) (.int (cells.length : Nat)) = some (.int ((k % cells.length : Nat) : Int)) := by rw [q_dMod _ _ (by omega)]; rfl
    have hlt : k % cells.length < cells.length := Nat.mod_lt _ (by omega)
    have hc : (JS.mk ((k : Int) + 1).toNat cells).cells[k % cells.length]? = some cells[k % cells.length] := List.getElem?_eq_getElem hlt
    by_cases h18 : (1000000000000000000 : Int) ≤ cells[k % cells.length]
    · have hd2 : decide ((1000000000000000000 : Int) ≤ cells[k % cells.length]) = true := decide_eq_true h18
      refine ⟨cells[k % cells.length] % n, ⟨((k : Int) + 1).toNat, cells.set (k % cells.length) (cells[k % cells.length] / n)⟩, ?_, Int.emod_nonneg _ (by omega), Int.emod_lt_of_pos _ hn⟩
      simp! only [q_bs, q_ret, q_eIxJ, q_kIxJ, q_ixJ0, q_ixJ1, q_sPutJ, q_kPutJ, q_kPutJ1, q_putJ0 (show (0 : Int) ≤ (k : Int) + 1 by omega), q_eLenJ, q_lenJ, hd, hm, q_ixJc ne hc, q_pow18, hd2, q_dDiv _ n ⟨hn, by omega⟩, q_putJc ne (j := ⟨((k : Int) + 1).toNat, cells⟩) hlt, q_dMod _ n hn]
    · have hd2 : decide ((1000000000000000000 : Int) ≤ cells[k % cells.length]) = false := decide_eq_false h18
      refine ⟨(((cells[k % cells.length] * 48271 + (k : Int) * 69621 + 11) % 2147483647) * ((cells[k % cells.length] * 48271 + (k : Int) * 69621 + 11) % 2147483647) + cells[k % cells.length] * 31 + (k : Int) * 40014) % 1000003 % n, ⟨((k : Int) + 1).toNat, cells⟩, ?_, Int.emod_nonneg _ (by omega), Int.emod_lt_of_pos _ hn⟩
      · have hone : ((cells[k % cells.length] * 48271 + (k : Int) * 69621 + 11) % 2147483647).natAbs < 2 ^ 64 := by
          have h1 := Int.emod_nonneg (cells[k % cells.length] * 48271 + (k : Int) * 69621 + 11) (show (2147483647 : Int) ≠ 0 by decide)
          have h2 := Int.emod_lt_of_pos (cells[k % cells.length] * 48271 + (k : Int) * 69621 + 11) (show (0 : Int) < 2147483647 by decide)
          omega
        simp! only [q_bs, q_ret, q_eIxJ, q_kIxJ, q_ixJ0, q_ixJ1, q_sPutJ, q_kPutJ, q_kPutJ1, q_putJ0 (show (0 : Int) ≤ (k : Int) + 1 by omega), q_eLenJ, q_lenJ, hd, hm, q_ixJc ne hc, q_pow18, hd2,
          q_mulR (x := cells[k % cells.length]) (y := 48271) (by decide), q_mulR (x := (k : Int)) (y := 69621) (by decide), q_mulR (x := cells[k % cells.length]) (y := 31) (by decide), q_mulR (x := (k : Int)) (y := 40014) (by decide), q_dMod _ (2147483647 : Int) (by decide), q_dMod _ (1000003 : Int) (by decide), q_mulR hone, q_dMod _ n hn]
end
theorem r_jar (a : Addr) (ns : List Int) (h : ns.length ≤ 63) : f__law_jar a ns [.opq (.ref a)] = M.ret (.lst [.int 0, .lst ((ns.map fun n => n % 10 ^ 60).map .int)]) := by
  have c : eCutS a ns (eVarF 0) oNone (oSome (eC (.int 63))) [.fz (.opq (.ref a)), .no] = M.ret (.lst (ns.map .int)) := by
    have hc : cutD (ns.map D.int) none (some (63 : Int)) = ns.map .int := by
      have := cut_to (ns.map D.int) 63
      rw [show ((63 : Nat) : Int) = (63 : Int) from rfl] at this
      rw [this, List.take_of_length_le (by rw [List.length_map]; exact h)]
    show (if V.ref a = V.ref a then (M.ret (D.lst (cutD (ns.map D.int) none (some (63 : Int)))) : M Unit D) else M.fail) = _
    rw [if_pos rfl, hc]
  have hz : (ns.map D.int).length ≤ 16777216 := by rw [List.length_map]; omega
  have lc : compD (S := Unit) (tgN 1) tYesD (eOp2 dMod (eCB dInt (aCons (eVarF 1) aNil)) (eOp2 dPow (eC (.int 10)) (eC (.int 60)))) (ns.map .int) [.fz (.opq (.ref a)), .no] = M.ret ((ns.map fun n => n % 10 ^ 60).map .int) := by
    rw [compD_map (f := fun d => match d with | .int n => .int (n % 10 ^ 60) | _ => .non)]
    · rw [List.map_map, List.map_map]; rfl
    · intro d hd
      obtain ⟨n, _, rfl⟩ := List.mem_map.mp hd
      refine ⟨_, rfl, rfl, ?_⟩
      simp! only [q_pow60, q_dMod _ ((10 : Int) ^ 60) (by decide)]
  unfold f__law_jar m__law_jar
  simp! only [c, q_kLc1 hz, q_rdo, lc]
theorem r_same : ∀ (n : Nat) (d : D), smD n d → f__law_same n [d, d] = M.ret (.bl true)
  | 0, _, h => h.elim
  | n + 1, .str x, _ => by
    unfold f__law_same m__law_same
    simp! only []
  | n + 1, .int x, _ => by
    unfold f__law_same m__law_same
    simp! only []
  | n + 1, .bl x, _ => by
    unfold f__law_same m__law_same
    simp! only [q_dEq_self (d := .bl x) (n := 0) dp_bl]
  | n + 1, .non, _ => by
    unfold f__law_same m__law_same
    simp! only []
  | n + 1, .tup l, h => by
    obtain ⟨hz, h⟩ := h
    obtain ⟨e', he, a, rfl⟩ := forD_thru (S := JS) (tg := tgN 2) (x := sIf (tNot1 (tVal (eCall (f__law_same n) 2 (aCons (eOp2 dIx (eVarF 0) (eVarF 2)) (aCons (eOp2 dIx (eVarF 1) (eVarF 2)) aNil))))) (sRet (eC (.bl false))) sNext) (ds := rngD 0 l.length)
      (fun i e => ∃ a, e = [.fz (.tup l), .fz (.tup l), a]) (fun i d e hd ⟨a, he⟩ => by
        subst he
        obtain ⟨hk, rfl⟩ := rngD_get hd
        have g : atI l ((0 : Int) + (i : Nat)) = some l[i] := by rw [Int.zero_add]; exact q_atN (List.getElem?_eq_getElem hk)
        have ih := r_same n l[i] (h _ (List.getElem_mem hk))
        refine ⟨_, rfl, [.fz (.tup l), .fz (.tup l), .fz (.int ((0 : Int) + (i : Nat)))], .inl ?_, _, rfl⟩
        simp! only [g, ih]) ⟨.no, rfl⟩
    unfold f__law_same m__law_same
    simp! only [q_rng1 hz, he]
  | n + 1, .opq _, h => h.elim
  | n + 1, .lst _, h => h.elim
  | n + 1, .dct _, h => h.elim
  | n + 1, .st _, h => h.elim
/-! the typed readings of these -/
def t__law_take (A0 A1 : Addr) (_ : Unit) (n : Int) : M JS Int := fun s => match f__law_take A0 A1 [.opq (.ref A0), .int n] s with
  | .ok (.int r) s' => .ok r s'
  | _ => .bad
theorem rf__law_take (A0 A1 : Addr) (u : Unit) (n : Int) : Ref (RD D.int) (f__law_take A0 A1 [eJ A0 u, D.int n]) (t__law_take A0 A1 u n) := by
  refine Ref.of (fun s a s' h => ?_) (fun s c fs s' h => ?_)
  · unfold t__law_take at h
    show ∃ b, f__law_take A0 A1 [.opq (.ref A0), .int n] s = .ok b s' ∧ b = D.int a
    split at h
    · rename_i r s2 e
      cases h
      exact ⟨_, e, rfl⟩
    · cases h
  · unfold t__law_take at h
    split at h <;> cases h
theorem h_take {A0 A1 : Addr} (ne : A0 ≠ A1) {n : Int} (hn : 0 < n) (hn2 : n < 1073741824) : Tr (t__law_take A0 A1 () n) fun r => 0 ≤ r ∧ r < n := fun s => by
  obtain ⟨r, s', h, h1⟩ := r_take ne s hn hn2
  exact ⟨r, s', by unfold t__law_take; rw [h], h1⟩
open Classical in
noncomputable def t__law_same (n : Nat) (a d : D) : M JS Bool := if a = d ∧ smD n d then M.ret true else M.fail
theorem rf__law_same (n : Nat) (a d : D) : Ref (RD D.bl) (f__law_same n [(id : D → D) a, (id : D → D) d]) (t__law_same n a d) := by
  unfold t__law_same
  by_cases h : a = d ∧ smD n d
  · rw [if_pos h, h.1]
    exact fun s => ⟨.bl true, by rw [show f__law_same n [(id : D → D) d, (id : D → D) d] = _ from r_same n d h.2]; rfl, rfl⟩
  · rw [if_neg h]
    exact Ref.fail
theorem t_same {n : Nat} {d : D} (h : smD n d) : t__law_same n d d = M.ret true := if_pos ⟨rfl, h⟩
/-- the law, once its typed reading is shown to come to True -/
theorem law_typed {k : Nat} {m : Addr → Addr → En JS Fl} {t : Addr → Addr → M JS Bool} (hm : ∀ A0 A1, TS ([none, some (.fz (eJ A0 ()))] ++ List.replicate (k - 2) none) (m A0 A1) (t A0 A1) (RT D.bl)) (h : ∀ A0 A1, A0 ≠ A1 → Tr (t A0 A1) (· = true)) : LawD f__law_jar k m := by
  intro a ns hns
  refine ⟨ns.map fun n => n % 10 ^ 60, by rw [r_jar a ns hns]; rfl, fun A0 A1 ne => ?_⟩
  obtain ⟨b, s', hb, rfl⟩ := h A0 A1 ne ⟨0, ns.map fun n => n % 10 ^ 60⟩
  have kn : Kn ([none, some (.fz (eJ A0 ()))] ++ List.replicate (k - 2) none) ([.no, .fz (.opq (.ref A0))] ++ List.replicate (k - 2) .no) := ⟨trivial, rfl, kn_fz [] (k - 2)⟩
  have := hm A0 A1 _ kn ⟨0, ns.map fun n => n % 10 ^ 60⟩
  rw [hb] at this
  obtain ⟨fl, hf, z⟩ := this
  rcases z with rfl | ⟨env, rfl, z⟩
  · exact ⟨s', hf⟩
  · cases z
end HD
namespace HD
open PySem PySem.Spec PyProof.Rows L2 DD
noncomputable def t_check_text (table : Str) (lines : (List Str)) : M JS Unit :=
  (M.bind (notM (isiD ((eT D.str) lines) "tuple")) fun b => if b = true then (M.exn "BadRow" [("index", D.int (-(1 : Int))), ("table", D.str table)]) else (if (decide ((20 : Int) < ((List.length lines : Nat) : Int))) = true then (M.exn "TooMany" [("limit", D.int (20 : Int)), ("what", D.str table)]) else (M.bind (forS (fun (x : (Int × Str)) (st : Unit) => (M.bind (notM (isiD (D.str x.2) "str")) fun b => if b = true then (M.exn "BadRow" [("index", D.int x.1), ("table", D.str table)]) else (M.ret ()))) (enumL lines) ()) fun (st_1 : Unit) => (M.ret ()))))
theorem rf_check_text (table : Str) (lines : (List Str)) : Ref (RD eU) (f_check_text [D.str table, (eT D.str) lines]) (t_check_text table lines) := by
  unfold f_check_text t_check_text
  refine rf_run (G := [some (.fz (D.str table)), some (.fz ((eT D.str) lines)), none, none]) ?_
  unfold m_check_text
  exact (if_m (tt_not (tt_val (te_cb (e := D.bl) rf_isiD (pvs_cons (pv_as ((eT D.str) lines) (id : D → D) (pv_var (eT D.str) lines rfl)) (pvs_cons (pv_c (id : D → D) (.opq (.ty "tuple"))) pvs_nil))))) (ts_raise [("index", D.int (-(1 : Int))), ("table", D.str table)] (pvs_cons (pv_var D.str table rfl) (pvs_cons (pv_neg (pv_c D.int 1)) pvs_nil))) (ts_skip (if_p (pt_val (pv_op2 rfl (pv_cb ((List.length lines : Nat) : Int) D.int (pvs_cons (pv_var (eT D.str) lines rfl) pvs_nil) (o_lenT _ _)) (pv_c D.int 20))) (ts_raise [("limit", D.int (20 : Int)), ("what", D.str table)] (pvs_cons (pv_var D.str table rfl) (pvs_cons (pv_c D.int 20) pvs_nil))) (ts_skip (ts_last (for_p (Gs := fun (st : Unit) => [some (.fz (D.str table)), some (.fz ((eT D.str) lines)), none, none]) () (pi_enum (sq_T _) (pvs_cons (pv_var (eT D.str) lines rfl) pvs_nil)) (.s (.s (.n (.n .nil)))) (fun (x : (Int × Str)) (st : Unit) => (tg_tup [D.int x.1, D.str x.2] (tgs_cons tg_n (tgs_cons tg_n tgs_nil)))) (fun (x : (Int × Str)) (st : Unit) => (ts_last (if_m (tt_not (tt_val (te_cb (e := D.bl) rf_isiD (pvs_cons (pv_as (D.str x.2) (id : D → D) (pv_var D.str x.2 rfl)) (pvs_cons (pv_c (id : D → D) (.opq (.ty "str"))) pvs_nil))))) (ts_raise [("index", D.int x.1), ("table", D.str table)] (pvs_cons (pv_var D.str table rfl) (pvs_cons (pv_var D.int x.1 rfl) pvs_nil))) (ts_skip (end_L () (.s (.s (.n (.n .nil))))))))) fun (st_1 : Unit) => (end_T ())))))))

noncomputable def t_check_text_D (table : Str) (lines : D) : M JS Unit :=
  (M.bind (notM (isiD lines "tuple")) fun b => if b = true then (M.exn "BadRow" [("index", D.int (-(1 : Int))), ("table", D.str table)]) else (M.bind (M.bind (lenD lines) fun (a : Int) => M.ret (decide ((20 : Int) < a))) fun b => if b = true then (M.exn "TooMany" [("limit", D.int (20 : Int)), ("what", D.str table)]) else (M.bind (M.bind (M.bind (M.ofO (dItems lines)) fun l => M.ret (enumL l)) fun xs => forS (fun (x : (Int × D)) (st : Unit) => (M.bind (notM (isiD x.2 "str")) fun b => if b = true then (M.exn "BadRow" [("index", D.int x.1), ("table", D.str table)]) else (M.ret ()))) xs ()) fun (st_1 : Unit) => (M.ret ()))))
theorem rf_check_text_D (table : Str) (lines : D) : Ref (RD eU) (f_check_text [D.str table, (id : D → D) lines]) (t_check_text_D table lines) := by
  unfold f_check_text t_check_text_D
  refine rf_run (G := [some (.fz (D.str table)), some (.fz ((id : D → D) lines)), none, none]) ?_
  unfold m_check_text
  exact (if_m (tt_not (tt_val (te_cb (e := D.bl) rf_isiD (pvs_cons (pv_var (id : D → D) lines rfl) (pvs_cons (pv_c (id : D → D) (.opq (.ty "tuple"))) pvs_nil))))) (ts_raise [("index", D.int (-(1 : Int))), ("table", D.str table)] (pvs_cons (pv_var D.str table rfl) (pvs_cons (pv_neg (pv_c D.int 1)) pvs_nil))) (ts_skip (if_m (tt_val (te_op2l (e := D.bl) (fun _ => rf_p rfl) (te_cb (e := D.int) rf_lenD (pvs_cons (pv_var (id : D → D) lines rfl) pvs_nil)) (pv_c D.int 20))) (ts_raise [("limit", D.int (20 : Int)), ("what", D.str table)] (pvs_cons (pv_var D.str table rfl) (pvs_cons (pv_c D.int 20) pvs_nil))) (ts_skip (ts_last (for_m (Gs := fun (st : Unit) => [some (.fz (D.str table)), some (.fz ((id : D → D) lines)), none, none]) () (ti_enumD (pvs_cons (pv_var (id : D → D) lines rfl) pvs_nil)) (.s (.s (.n (.n .nil)))) (fun (x : (Int × D)) (st : Unit) => (tg_tup [D.int x.1, (id : D → D) x.2] (tgs_cons tg_n (tgs_cons tg_n tgs_nil)))) (fun (x : (Int × D)) (st : Unit) => (ts_last (if_m (tt_not (tt_val (te_cb (e := D.bl) rf_isiD (pvs_cons (pv_var (id : D → D) x.2 rfl) (pvs_cons (pv_c (id : D → D) (.opq (.ty "str"))) pvs_nil))))) (ts_raise [("index", D.int x.1), ("table", D.str table)] (pvs_cons (pv_var D.str table rfl) (pvs_cons (pv_var D.int x.1 rfl) pvs_nil))) (ts_skip (end_L () (.s (.s (.n (.n .nil))))))))) fun (st_1 : Unit) => (end_T ())))))))

noncomputable def t_check_three (base : (List Str)) (ours : (List Str)) (theirs : (List Str)) : M JS Unit :=
  (M.bind (t_check_text ("base" : Str) base) fun _ => (M.bind (t_check_text ("ours" : Str) ours) fun _ => (M.bind (t_check_text ("theirs" : Str) theirs) fun _ => (M.ret ()))))
theorem rf_check_three (base : (List Str)) (ours : (List Str)) (theirs : (List Str)) : Ref (RD eU) (f_check_three [(eT D.str) base, (eT D.str) ours, (eT D.str) theirs]) (t_check_three base ours theirs) := by
  unfold f_check_three t_check_three
  refine rf_run (G := [some (.fz ((eT D.str) base)), some (.fz ((eT D.str) ours)), some (.fz ((eT D.str) theirs))]) ?_
  unfold m_check_three
  exact (expr_m (te_call (e := eU) (rf_check_text ("base" : Str) base) (pvs_cons (pv_c D.str "base") (pvs_cons (pv_var (eT D.str) base rfl) pvs_nil))) (expr_m (te_call (e := eU) (rf_check_text ("ours" : Str) ours) (pvs_cons (pv_c D.str "ours") (pvs_cons (pv_var (eT D.str) ours rfl) pvs_nil))) (ts_last (expr_m (te_call (e := eU) (rf_check_text ("theirs" : Str) theirs) (pvs_cons (pv_c D.str "theirs") (pvs_cons (pv_var (eT D.str) theirs rfl) pvs_nil))) (end_T ())))))

noncomputable def t_check_three_D (base : D) (ours : D) (theirs : D) : M JS Unit :=
  (M.bind (t_check_text_D ("base" : Str) base) fun _ => (M.bind (t_check_text_D ("ours" : Str) ours) fun _ => (M.bind (t_check_text_D ("theirs" : Str) theirs) fun _ => (M.ret ()))))
theorem rf_check_three_D (base : D) (ours : D) (theirs : D) : Ref (RD eU) (f_check_three [(id : D → D) base, (id : D → D) ours, (id : D → D) theirs]) (t_check_three_D base ours theirs) := by
  unfold f_check_three t_check_three_D
  refine rf_run (G := [some (.fz ((id : D → D) base)), some (.fz ((id : D → D) ours)), some (.fz ((id : D → D) theirs))]) ?_
  unfold m_check_three
  exact (expr_m (te_call (e := eU) (rf_check_text_D ("base" : Str) base) (pvs_cons (pv_c D.str "base") (pvs_cons (pv_var (id : D → D) base rfl) pvs_nil))) (expr_m (te_call (e := eU) (rf_check_text_D ("ours" : Str) ours) (pvs_cons (pv_c D.str "ours") (pvs_cons (pv_var (id : D → D) ours rfl) pvs_nil))) (ts_last (expr_m (te_call (e := eU) (rf_check_text_D ("theirs" : Str) theirs) (pvs_cons (pv_c D.str "theirs") (pvs_cons (pv_var (id : D → D) theirs rfl) pvs_nil))) (end_T ())))))

noncomputable def t_most_pairs (one : (List Str)) (two : (List Str)) : M JS (List (List Int)) :=
  (M.bind (DD.noex (rng1 (((List.length one : Nat) : Int) + (1 : Int)))) fun xs => M.bind (lcM (fun _ => M.ret true) (fun (x : Int) => (repM ([(0 : Int)] : (List Int)) (((List.length two : Nat) : Int) + (1 : Int)))) xs) fun t0 => tabX (M.bind (M.bind (rng3 (((List.length one : Nat) : Int) - (1 : Int)) (-(1 : Int))) fun xs => forS (fun (x_1 : Int) (st : Unit) => (M.bind (M.bind (rng3 (((List.length two : Nat) : Int) - (1 : Int)) (-(1 : Int))) fun xs => forS (fun (x_2 : Int) (st_1 : Unit) => (M.bind (M.bind (ixM one x_1) fun (a : Str) => M.bind (ixM two x_2) fun (b : Str) => M.ret (decide (a = b))) fun b => if b = true then (M.bind (M.bind (M.bind (tabG (x_1 + (1 : Int)) (x_2 + (1 : Int))) fun (a : Int) => M.ret (a + (1 : Int))) fun (c : Int) => tabP x_1 x_2 c) fun _ => (M.ret ())) else (M.bind (M.bind (M.bind (M.bind (tabG (x_1 + (1 : Int)) x_2) fun a => M.bind (M.bind (tabG x_1 (x_2 + (1 : Int))) fun a => M.bind (M.ret ()) fun r => M.ret (a, r)) fun r => M.ret (a, r)) fun p => M.ret (if (p.2.1 : Int) > (p.1 : Int) then (p.2.1 : Int) else (p.1 : Int))) fun (c : Int) => tabP x_1 x_2 c) fun _ => (M.ret ())))) xs ()) fun (st_2 : Unit) => (M.ret ()))) xs ()) fun (st_3 : Unit) => (M.ret ())) t0)
theorem rf_most_pairs (one : (List Str)) (two : (List Str)) : Ref (RD (eL (eL D.int))) (f_most_pairs [(eT D.str) one, (eT D.str) two]) (t_most_pairs one two) := by
  unfold f_most_pairs t_most_pairs
  refine rf_run (G := [some (.fz ((eT D.str) one)), some (.fz ((eT D.str) two)), none, none, none]) ?_
  unfold m_most_pairs
  exact (ts_tabs (ti_rng1p (pvs_cons (pv_addI (pv_cb ((List.length one : Nat) : Int) D.int (pvs_cons (pv_var (eT D.str) one rfl) pvs_nil) (o_lenT _ _)) (pv_c D.int 1)) pvs_nil)) (fun (x : Int) => tg_n) (fun (x : Int) => (te_repL (pv_lst ([(0 : Int)] : (List Int)) (eL D.int) (pvs_cons (pv_c D.int 0) pvs_nil)) (pv_addI (pv_cb ((List.length two : Nat) : Int) D.int (pvs_cons (pv_var (eT D.str) two rfl) pvs_nil) (o_lenT _ _)) (pv_c D.int 1)))) fun iZ => (for_m (Gs := fun (st : Unit) => [some (.fz ((eT D.str) one)), some (.fz ((eT D.str) two)), some (.fz ((eJ iZ.1) ())), none, none]) () (ti_rng3p (pvs_cons (pv_subI (pv_cb ((List.length one : Nat) : Int) D.int (pvs_cons (pv_var (eT D.str) one rfl) pvs_nil) (o_lenT _ _)) (pv_c D.int 1)) (pvs_cons (pv_neg (pv_c D.int 1)) (pvs_cons (pv_neg (pv_c D.int 1)) pvs_nil)))) (.s (.s (.s (.n (.n .nil))))) (fun (x_1 : Int) (st : Unit) => tg_n) (fun (x_1 : Int) (st : Unit) => (ts_last (for_m (Gs := fun (st_1 : Unit) => [some (.fz ((eT D.str) one)), some (.fz ((eT D.str) two)), some (.fz ((eJ iZ.1) ())), some (.fz (D.int x_1)), none]) () (ti_rng3p (pvs_cons (pv_subI (pv_cb ((List.length two : Nat) : Int) D.int (pvs_cons (pv_var (eT D.str) two rfl) pvs_nil) (o_lenT _ _)) (pv_c D.int 1)) (pvs_cons (pv_neg (pv_c D.int 1)) (pvs_cons (pv_neg (pv_c D.int 1)) pvs_nil)))) (.s (.s (.s (.s (.n .nil))))) (fun (x_2 : Int) (st_1 : Unit) => tg_n) (fun (x_2 : Int) (st_1 : Unit) => (ts_last (if_m (tt_val (te_op2m (e := D.bl) (fun _ _ => rf_p (o_eq cm_str _ _)) (te_op2 (e := D.str) rf_ixT (pv_var (eT D.str) one rfl) (pv_var D.int x_1 rfl)) (te_op2 (e := D.str) rf_ixT (pv_var (eT D.str) two rfl) (pv_var D.int x_2 rfl)))) (ts_tab2 rfl (te_op2l (e := D.int) (fun _ => rf_p rfl) (te_tab2 rfl (pv_addI (pv_var D.int x_1 rfl) (pv_c D.int 1)) (pv_addI (pv_var D.int x_2 rfl) (pv_c D.int 1))) (pv_c D.int 1)) (pv_var D.int x_1 rfl) (pv_var D.int x_2 rfl) (end_L () (.s (.s (.s (.s (.n .nil))))))) (ts_tab2 rfl (te_cbm (e := D.int) (ta_cons (te_tab2 rfl (pv_addI (pv_var D.int x_1 rfl) (pv_c D.int 1)) (pv_var D.int x_2 rfl)) (ta_cons (te_tab2 rfl (pv_var D.int x_1 rfl) (pv_addI (pv_var D.int x_2 rfl) (pv_c D.int 1))) ta_nil)) (fun _ => rf_p rfl)) (pv_var D.int x_1 rfl) (pv_var D.int x_2 rfl) (end_L () (.s (.s (.s (.s (.n .nil)))))))))) fun (st_2 : Unit) => (end_L () (.s (.s (.s (.n (.n .nil))))))))) fun (st_3 : Unit) => (ts_last (ret_pT (pv_var (eJ iZ.1) () rfl)))))

noncomputable def t_pairs_between (one : (List Str)) (two : (List Str)) : M JS (List (Int × Int)) :=
  (M.bind (t_most_pairs one two) fun (table : (List (List Int))) => (M.bind (M.ret ([] : (List (Int × Int)))) fun (pairs : (List (Int × Int))) => (M.bind (M.ret (0 : Int)) fun (i : Int) => (M.bind (M.ret (0 : Int)) fun (j : Int) => (M.bind (whileS (fun (st : (List (Int × Int)) × Int × Int) => (M.ret ((decide (st.2.1 < ((List.length one : Nat) : Int))) && (decide (st.2.2 < ((List.length two : Nat) : Int)))))) (fun (st : (List (Int × Int)) × Int × Int) => (M.bind (M.bind (ixM one st.2.1) fun (a : Str) => M.bind (ixM two st.2.2) fun (b : Str) => M.ret (decide (a = b))) fun b => if b = true then (M.bind (appM st.1 ((st.2.1, st.2.2) : (Int × Int))) fun (pairs_1 : (List (Int × Int))) => (M.bind (M.ret (1 : Int)) fun (b : Int) => M.bind (M.ret (st.2.1 + b)) fun (i_1 : Int) => (M.bind (M.ret (1 : Int)) fun (b : Int) => M.bind (M.ret (st.2.2 + b)) fun (j_1 : Int) => (M.ret (pairs_1, i_1, j_1))))) else (M.bind (M.bind (M.bind (ixM table (st.2.1 + (1 : Int))) fun (a : (List Int)) => (ixM a st.2.2)) fun (a : Int) => M.bind (M.bind (ixM table st.2.1) fun (a : (List Int)) => (ixM a (st.2.2 + (1 : Int)))) fun (b : Int) => M.ret (decide (b ≤ a))) fun b => if b = true then (M.bind (M.ret (1 : Int)) fun (b : Int) => M.bind (M.ret (st.2.1 + b)) fun (i_2 : Int) => (M.ret (st.1, i_2, st.2.2))) else (M.bind (M.ret (1 : Int)) fun (b : Int) => M.bind (M.ret (st.2.2 + b)) fun (j_2 : Int) => (M.ret (st.1, st.2.1, j_2)))))) 1000 (pairs, i, j)) fun (st_1 : (List (Int × Int)) × Int × Int) => (M.ret st_1.1))))))
theorem rf_pairs_between (one : (List Str)) (two : (List Str)) : Ref (RD (eT (eP D.int D.int))) (f_pairs_between [(eT D.str) one, (eT D.str) two]) (t_pairs_between one two) := by
  unfold f_pairs_between t_pairs_between
  refine rf_run (G := [some (.fz ((eT D.str) one)), some (.fz ((eT D.str) two)), none, none, none, none]) ?_
  unfold m_pairs_between
  exact (asg_m (e := (eL (eL D.int))) (.nil rfl) (te_call (e := (eL (eL D.int))) (rf_most_pairs one two) (pvs_cons (pv_var (eT D.str) one rfl) (pvs_cons (pv_var (eT D.str) two rfl) pvs_nil))) fun (table : (List (List Int))) => (asgF_m (e := (eL (eP D.int D.int))) (.nil rfl) (te_p (pv_lst ([] : (List (Int × Int))) (eL (eP D.int D.int)) pvs_nil)) fun (pairs : (List (Int × Int))) => (asg_m (e := D.int) (.nil rfl) (te_p (pv_c D.int 0)) fun (i : Int) => (asg_m (e := D.int) (.nil rfl) (te_p (pv_c D.int 0)) fun (j : Int) => (while_s (Gs := fun (st : (List (Int × Int)) × Int × Int) => [some (.fz ((eT D.str) one)), some (.fz ((eT D.str) two)), some (.fz ((eL (eL D.int)) table)), some (.ow ((eL (eP D.int D.int)) st.1)), some (.fz (D.int st.2.1)), some (.fz (D.int st.2.2))]) (pairs, i, j) (.s (.s (.s (.s (.s (.s .nil)))))) (fun (st : (List (Int × Int)) × Int × Int) => (tt_p (pt_and (pt_val (pv_op2 rfl (pv_var D.int st.2.1 rfl) (pv_cb ((List.length one : Nat) : Int) D.int (pvs_cons (pv_var (eT D.str) one rfl) pvs_nil) (o_lenT _ _)))) (pt_val (pv_op2 rfl (pv_var D.int st.2.2 rfl) (pv_cb ((List.length two : Nat) : Int) D.int (pvs_cons (pv_var (eT D.str) two rfl) pvs_nil) (o_lenT _ _))))))) (fun (st : (List (Int × Int)) × Int × Int) => (ts_last (if_m (tt_val (te_op2m (e := D.bl) (fun _ _ => rf_p (o_eq cm_str _ _)) (te_op2 (e := D.str) rf_ixT (pv_var (eT D.str) one rfl) (pv_var D.int st.2.1 rfl)) (te_op2 (e := D.str) rf_ixT (pv_var (eT D.str) two rfl) (pv_var D.int st.2.2 rfl)))) (ts_assoc (app_p (l := st.1) (e := (eP D.int D.int)) (.nil rfl) rfl rfl (pv_tup ((st.2.1, st.2.2) : (Int × Int)) (eP D.int D.int) (pvs_cons (pv_var D.int st.2.1 rfl) (pvs_cons (pv_var D.int st.2.2 rfl) pvs_nil))) fun (pairs_1 : (List (Int × Int))) => (ts_assoc (aug_m (ea := D.int) (e := D.int) (a := st.2.1) (fun _ => rf_p rfl) hd_int rfl (te_p (pv_c D.int 1)) fun (i_1 : Int) => (aug_m (ea := D.int) (e := D.int) (a := st.2.2) (fun _ => rf_p rfl) hd_int rfl (te_p (pv_c D.int 1)) fun (j_1 : Int) => (end_L (pairs_1, i_1, j_1) (.s (.s (.s (.s (.s (.s .nil)))))))))))) (if_m (tt_val (te_op2m (e := D.bl) (fun _ _ => rf_p rfl) (te_op2l (e := D.int) (fun _ => rf_ixL) (te_op2 (e := (eL D.int)) rf_ixL (pv_var (eL (eL D.int)) table rfl) (pv_addI (pv_var D.int st.2.1 rfl) (pv_c D.int 1))) (pv_var D.int st.2.2 rfl)) (te_op2l (e := D.int) (fun _ => rf_ixL) (te_op2 (e := (eL D.int)) rf_ixL (pv_var (eL (eL D.int)) table rfl) (pv_var D.int st.2.1 rfl)) (pv_addI (pv_var D.int st.2.2 rfl) (pv_c D.int 1))))) (aug_m (ea := D.int) (e := D.int) (a := st.2.1) (fun _ => rf_p rfl) hd_int rfl (te_p (pv_c D.int 1)) fun (i_2 : Int) => (end_L (st.1, i_2, st.2.2) (.s (.s (.s (.s (.s (.s .nil)))))))) (aug_m (ea := D.int) (e := D.int) (a := st.2.2) (fun _ => rf_p rfl) hd_int rfl (te_p (pv_c D.int 1)) fun (j_2 : Int) => (end_L (st.1, st.2.1, j_2) (.s (.s (.s (.s (.s (.s .nil)))))))))))) fun (st_1 : (List (Int × Int)) × Int × Int) => (ts_last (ret_pT (pv_cb st_1.1 (eT (eP D.int D.int)) (pvs_cons (pv_own (eL (eP D.int D.int)) st_1.1 rfl) pvs_nil) rfl))))))))

noncomputable def t_kept_rows (base : (List Str)) (ours : (List Str)) (theirs : (List Str)) : M JS (List (Int × Int × Int)) :=
  (M.bind (t_pairs_between base ours) fun (left : (List (Int × Int))) => (M.bind (t_pairs_between base theirs) fun (right : (List (Int × Int))) => (M.bind (M.ret ([] : (List (Int × Int × Int)))) fun (rows : (List (Int × Int × Int))) => (M.bind (forS (fun (x : (Int × Int)) (st : (List (Int × Int × Int))) => (M.bind (forS (fun (x_1 : (Int × Int)) (st_1 : (List (Int × Int × Int))) => (if (decide (x.1 = x_1.1)) = true then (M.bind (appM st_1 ((x.1, x.2, x_1.2) : (Int × Int × Int))) fun (rows_1 : (List (Int × Int × Int))) => (M.ret rows_1)) else (M.ret st_1))) right st) fun (st_2 : (List (Int × Int × Int))) => (M.ret st_2))) left rows) fun (st_3 : (List (Int × Int × Int))) => (M.ret st_3)))))
theorem rf_kept_rows (base : (List Str)) (ours : (List Str)) (theirs : (List Str)) : Ref (RD (eT (eP3 D.int D.int D.int))) (f_kept_rows [(eT D.str) base, (eT D.str) ours, (eT D.str) theirs]) (t_kept_rows base ours theirs) := by
  unfold f_kept_rows t_kept_rows
  refine rf_run (G := [some (.fz ((eT D.str) base)), some (.fz ((eT D.str) ours)), some (.fz ((eT D.str) theirs)), none, none, none, none, none, none, none]) ?_
  unfold m_kept_rows
  exact (asg_m (e := (eT (eP D.int D.int))) (.nil rfl) (te_call (e := (eT (eP D.int D.int))) (rf_pairs_between base ours) (pvs_cons (pv_var (eT D.str) base rfl) (pvs_cons (pv_var (eT D.str) ours rfl) pvs_nil))) fun (left : (List (Int × Int))) => (asg_m (e := (eT (eP D.int D.int))) (.nil rfl) (te_call (e := (eT (eP D.int D.int))) (rf_pairs_between base theirs) (pvs_cons (pv_var (eT D.str) base rfl) (pvs_cons (pv_var (eT D.str) theirs rfl) pvs_nil))) fun (right : (List (Int × Int))) => (asgF_m (e := (eL (eP3 D.int D.int D.int))) (.nil rfl) (te_p (pv_lst ([] : (List (Int × Int × Int))) (eL (eP3 D.int D.int D.int)) pvs_nil)) fun (rows : (List (Int × Int × Int))) => (for_p (Gs := fun (st : (List (Int × Int × Int))) => [some (.fz ((eT D.str) base)), some (.fz ((eT D.str) ours)), some (.fz ((eT D.str) theirs)), some (.fz ((eT (eP D.int D.int)) left)), some (.fz ((eT (eP D.int D.int)) right)), some (.ow ((eL (eP3 D.int D.int D.int)) st)), none, none, none, none]) rows (pi_T (pv_var (eT (eP D.int D.int)) left rfl)) (.s (.s (.s (.s (.s (.s (.n (.n (.n (.n .nil)))))))))) (fun (x : (Int × Int)) (st : (List (Int × Int × Int))) => (tg_tup [D.int x.1, D.int x.2] (tgs_cons tg_n (tgs_cons tg_n tgs_nil)))) (fun (x : (Int × Int)) (st : (List (Int × Int × Int))) => (ts_last (for_p (Gs := fun (st_1 : (List (Int × Int × Int))) => [some (.fz ((eT D.str) base)), some (.fz ((eT D.str) ours)), some (.fz ((eT D.str) theirs)), some (.fz ((eT (eP D.int D.int)) left)), some (.fz ((eT (eP D.int D.int)) right)), some (.ow ((eL (eP3 D.int D.int D.int)) st_1)), some (.fz (D.int x.1)), some (.fz (D.int x.2)), none, none]) st (pi_T (pv_var (eT (eP D.int D.int)) right rfl)) (.s (.s (.s (.s (.s (.s (.s (.s (.n (.n .nil)))))))))) (fun (x_1 : (Int × Int)) (st_1 : (List (Int × Int × Int))) => (tg_tup [D.int x_1.1, D.int x_1.2] (tgs_cons tg_n (tgs_cons tg_n tgs_nil)))) (fun (x_1 : (Int × Int)) (st_1 : (List (Int × Int × Int))) => (ts_last (if_p (pt_val (pv_op2 (o_eq cm_int _ _) (pv_var D.int x.1 rfl) (pv_var D.int x_1.1 rfl))) (app_p (l := st_1) (e := (eP3 D.int D.int D.int)) (.nil rfl) rfl rfl (pv_tup ((x.1, x.2, x_1.2) : (Int × Int × Int)) (eP3 D.int D.int D.int) (pvs_cons (pv_var D.int x.1 rfl) (pvs_cons (pv_var D.int x.2 rfl) (pvs_cons (pv_var D.int x_1.2 rfl) pvs_nil)))) fun (rows_1 : (List (Int × Int × Int))) => (end_L rows_1 (.s (.s (.s (.s (.s (.s (.s (.s (.n (.n .nil)))))))))))) (ts_skip (end_L st_1 (.s (.s (.s (.s (.s (.s (.s (.s (.n (.n .nil))))))))))))))) fun (st_2 : (List (Int × Int × Int))) => (end_L st_2 (.s (.s (.s (.s (.s (.s (.n (.n (.n (.n .nil)))))))))))))) fun (st_3 : (List (Int × Int × Int))) => (ts_last (ret_pT (pv_cb st_3 (eT (eP3 D.int D.int D.int)) (pvs_cons (pv_own (eL (eP3 D.int D.int D.int)) st_3 rfl) pvs_nil) rfl)))))))

noncomputable def t_kept_lines (base : (List Str)) (ours : (List Str)) (theirs : (List Str)) : M JS (List (Int × Int × Int)) :=
  (M.bind (t_check_three base ours theirs) fun _ => (t_kept_rows base ours theirs))
theorem rf_kept_lines (base : (List Str)) (ours : (List Str)) (theirs : (List Str)) : Ref (RD (eT (eP3 D.int D.int D.int))) (f_kept_lines [(eT D.str) base, (eT D.str) ours, (eT D.str) theirs]) (t_kept_lines base ours theirs) := by
  unfold f_kept_lines t_kept_lines
  refine rf_run (G := [some (.fz ((eT D.str) base)), some (.fz ((eT D.str) ours)), some (.fz ((eT D.str) theirs))]) ?_
  unfold m_kept_lines
  exact (expr_m (te_call (e := eU) (rf_check_three base ours theirs) (pvs_cons (pv_var (eT D.str) base rfl) (pvs_cons (pv_var (eT D.str) ours rfl) (pvs_cons (pv_var (eT D.str) theirs rfl) pvs_nil)))) (ts_last (ret_t (te_call (e := (eT (eP3 D.int D.int D.int))) (rf_kept_rows base ours theirs) (pvs_cons (pv_var (eT D.str) base rfl) (pvs_cons (pv_var (eT D.str) ours rfl) (pvs_cons (pv_var (eT D.str) theirs rfl) pvs_nil)))))))

noncomputable def t_stretches (base : (List Str)) (ours : (List Str)) (theirs : (List Str)) : M JS (List ((List Str) × (List Str) × (List Str))) :=
  (M.bind (M.bind (t_kept_rows base ours theirs) fun (a : (List (Int × Int × Int))) => (catM a ([((((List.length base : Nat) : Int), ((List.length ours : Nat) : Int), ((List.length theirs : Nat) : Int)) : (Int × Int × Int))] : (List (Int × Int × Int))))) fun (ends : (List (Int × Int × Int))) => (M.bind (M.ret ([] : (List ((List Str) × (List Str) × (List Str))))) fun (parts : (List ((List Str) × (List Str) × (List Str)))) => (M.bind (M.ret (((0 : Int), (0 : Int), (0 : Int)) : (Int × Int × Int))) fun (start : (Int × Int × Int)) => (M.bind (forS (fun (x : (Int × Int × Int)) (st : (List ((List Str) × (List Str) × (List Str))) × (Int × Int × Int)) => (M.bind (appM st.1 (((cutD base (some st.2.1) (some x.1)), (cutD ours (some st.2.2.1) (some x.2.1)), (cutD theirs (some st.2.2.2) (some x.2.2))) : ((List Str) × (List Str) × (List Str)))) fun (parts_1 : (List ((List Str) × (List Str) × (List Str)))) => (M.bind (M.ret (((x.1 + (1 : Int)), (x.2.1 + (1 : Int)), (x.2.2 + (1 : Int))) : (Int × Int × Int))) fun (start_1 : (Int × Int × Int)) => (M.ret (parts_1, start_1))))) ends (parts, start)) fun (st_1 : (List ((List Str) × (List Str) × (List Str))) × (Int × Int × Int)) => (M.ret st_1.1)))))
theorem rf_stretches (base : (List Str)) (ours : (List Str)) (theirs : (List Str)) : Ref (RD (eL (eP3 (eT D.str) (eT D.str) (eT D.str)))) (f_stretches [(eT D.str) base, (eT D.str) ours, (eT D.str) theirs]) (t_stretches base ours theirs) := by
  unfold f_stretches t_stretches
  refine rf_run (G := [some (.fz ((eT D.str) base)), some (.fz ((eT D.str) ours)), some (.fz ((eT D.str) theirs)), none, none, none, none]) ?_
  unfold m_stretches
  exact (asg_m (e := (eT (eP3 D.int D.int D.int))) (.nil rfl) (te_op2l (e := (eT (eP3 D.int D.int D.int))) (fun _ => rf_catT) (te_call (e := (eT (eP3 D.int D.int D.int))) (rf_kept_rows base ours theirs) (pvs_cons (pv_var (eT D.str) base rfl) (pvs_cons (pv_var (eT D.str) ours rfl) (pvs_cons (pv_var (eT D.str) theirs rfl) pvs_nil)))) (pv_tup ([((((List.length base : Nat) : Int), ((List.length ours : Nat) : Int), ((List.length theirs : Nat) : Int)) : (Int × Int × Int))] : (List (Int × Int × Int))) (eT (eP3 D.int D.int D.int)) (pvs_cons (pv_tup ((((List.length base : Nat) : Int), ((List.length ours : Nat) : Int), ((List.length theirs : Nat) : Int)) : (Int × Int × Int)) (eP3 D.int D.int D.int) (pvs_cons (pv_cb ((List.length base : Nat) : Int) D.int (pvs_cons (pv_var (eT D.str) base rfl) pvs_nil) (o_lenT _ _)) (pvs_cons (pv_cb ((List.length ours : Nat) : Int) D.int (pvs_cons (pv_var (eT D.str) ours rfl) pvs_nil) (o_lenT _ _)) (pvs_cons (pv_cb ((List.length theirs : Nat) : Int) D.int (pvs_cons (pv_var (eT D.str) theirs rfl) pvs_nil) (o_lenT _ _)) pvs_nil)))) pvs_nil))) fun (ends : (List (Int × Int × Int))) => (asgF_m (e := (eL (eP3 (eT D.str) (eT D.str) (eT D.str)))) (.nil rfl) (te_p (pv_lst ([] : (List ((List Str) × (List Str) × (List Str)))) (eL (eP3 (eT D.str) (eT D.str) (eT D.str))) pvs_nil)) fun (parts : (List ((List Str) × (List Str) × (List Str)))) => (asg_m (e := (eP3 D.int D.int D.int)) (.nil rfl) (te_p (pv_tup (((0 : Int), (0 : Int), (0 : Int)) : (Int × Int × Int)) (eP3 D.int D.int D.int) (pvs_cons (pv_c D.int 0) (pvs_cons (pv_c D.int 0) (pvs_cons (pv_c D.int 0) pvs_nil))))) fun (start : (Int × Int × Int)) => (for_p (Gs := fun (st : (List ((List Str) × (List Str) × (List Str))) × (Int × Int × Int)) => [some (.fz ((eT D.str) base)), some (.fz ((eT D.str) ours)), some (.fz ((eT D.str) theirs)), some (.fz ((eT (eP3 D.int D.int D.int)) ends)), some (.ow ((eL (eP3 (eT D.str) (eT D.str) (eT D.str))) st.1)), some (.fz ((eP3 D.int D.int D.int) st.2)), none]) (parts, start) (pi_T (pv_var (eT (eP3 D.int D.int D.int)) ends rfl)) (.s (.s (.s (.s (.s (.s (.n .nil))))))) (fun (x : (Int × Int × Int)) (st : (List ((List Str) × (List Str) × (List Str))) × (Int × Int × Int)) => tg_n) (fun (x : (Int × Int × Int)) (st : (List ((List Str) × (List Str) × (List Str))) × (Int × Int × Int)) => (app_p (l := st.1) (e := (eP3 (eT D.str) (eT D.str) (eT D.str))) (.nil rfl) rfl rfl (pv_tup (((cutD base (some st.2.1) (some x.1)), (cutD ours (some st.2.2.1) (some x.2.1)), (cutD theirs (some st.2.2.2) (some x.2.2))) : ((List Str) × (List Str) × (List Str))) (eP3 (eT D.str) (eT D.str) (eT D.str)) (pvs_cons (pv_cut (pv_var (eT D.str) base rfl) (po_some (pv_op2 (by first | rfl | exact ix_P3_0 _) (pv_var (eP3 D.int D.int D.int) st.2 rfl) (pv_c D.int 0))) (po_some (pv_op2 (by first | rfl | exact ix_P3_0 _) (pv_var (eP3 D.int D.int D.int) x rfl) (pv_c D.int 0))) (o_cutT _ _ _ _)) (pvs_cons (pv_cut (pv_var (eT D.str) ours rfl) (po_some (pv_op2 (by first | rfl | exact ix_P3_1 _) (pv_var (eP3 D.int D.int D.int) st.2 rfl) (pv_c D.int 1))) (po_some (pv_op2 (by first | rfl | exact ix_P3_1 _) (pv_var (eP3 D.int D.int D.int) x rfl) (pv_c D.int 1))) (o_cutT _ _ _ _)) (pvs_cons (pv_cut (pv_var (eT D.str) theirs rfl) (po_some (pv_op2 (by first | rfl | exact ix_P3_2 _) (pv_var (eP3 D.int D.int D.int) st.2 rfl) (pv_c D.int 2))) (po_some (pv_op2 (by first | rfl | exact ix_P3_2 _) (pv_var (eP3 D.int D.int D.int) x rfl) (pv_c D.int 2))) (o_cutT _ _ _ _)) pvs_nil)))) fun (parts_1 : (List ((List Str) × (List Str) × (List Str)))) => (ts_last (asg_m (e := (eP3 D.int D.int D.int)) (.nil rfl) (te_p (pv_tup (((x.1 + (1 : Int)), (x.2.1 + (1 : Int)), (x.2.2 + (1 : Int))) : (Int × Int × Int)) (eP3 D.int D.int D.int) (pvs_cons (pv_addI (pv_op2 (by first | rfl | exact ix_P3_0 _) (pv_var (eP3 D.int D.int D.int) x rfl) (pv_c D.int 0)) (pv_c D.int 1)) (pvs_cons (pv_addI (pv_op2 (by first | rfl | exact ix_P3_1 _) (pv_var (eP3 D.int D.int D.int) x rfl) (pv_c D.int 1)) (pv_c D.int 1)) (pvs_cons (pv_addI (pv_op2 (by first | rfl | exact ix_P3_2 _) (pv_var (eP3 D.int D.int D.int) x rfl) (pv_c D.int 2)) (pv_c D.int 1)) pvs_nil))))) fun (start_1 : (Int × Int × Int)) => (end_L (parts_1, start_1) (.s (.s (.s (.s (.s (.s (.n .nil)))))))))))) fun (st_1 : (List ((List Str) × (List Str) × (List Str))) × (Int × Int × Int)) => (ts_last (ret_pT (pv_own (eL (eP3 (eT D.str) (eT D.str) (eT D.str))) st_1.1 rfl)))))))

noncomputable def t_merged_part (part : ((List Str) × (List Str) × (List Str))) : M JS (Option (List Str)) :=
  (M.bind (M.ret part) fun (v : ((List Str) × (List Str) × (List Str))) => (if (decide (v.2.1 = v.1)) = true then (M.ret (some v.2.2)) else (if ((decide (v.2.2 = v.1)) || (decide (v.2.1 = v.2.2))) = true then (M.ret (some v.2.1)) else (M.ret none))))
theorem rf_merged_part (part : ((List Str) × (List Str) × (List Str))) : Ref (RD (eO (eT D.str))) (f_merged_part [(eP3 (eT D.str) (eT D.str) (eT D.str)) part]) (t_merged_part part) := by
  unfold f_merged_part t_merged_part
  refine rf_run (G := [some (.fz ((eP3 (eT D.str) (eT D.str) (eT D.str)) part)), none, none, none]) ?_
  unfold m_merged_part
  exact (asgG_m (e := (eP3 (eT D.str) (eT D.str) (eT D.str))) (.nil rfl) (te_p (pv_var (eP3 (eT D.str) (eT D.str) (eT D.str)) part rfl)) (fun (v : ((List Str) × (List Str) × (List Str))) => (tg_tup [(eT D.str) v.1, (eT D.str) v.2.1, (eT D.str) v.2.2] (tgs_cons tg_n (tgs_cons tg_n (tgs_cons tg_n tgs_nil))))) fun (v : ((List Str) × (List Str) × (List Str))) => (if_p (pt_val (pv_op2 (o_eq (cm_T cm_str) _ _) (pv_var (eT D.str) v.2.1 rfl) (pv_var (eT D.str) v.1 rfl))) (ret_pT (pv_as (some v.2.2) (eO (eT D.str)) (pv_var (eT D.str) v.2.2 rfl))) (ts_skip (if_p (pt_or (pt_val (pv_op2 (o_eq (cm_T cm_str) _ _) (pv_var (eT D.str) v.2.2 rfl) (pv_var (eT D.str) v.1 rfl))) (pt_val (pv_op2 (o_eq (cm_T cm_str) _ _) (pv_var (eT D.str) v.2.1 rfl) (pv_var (eT D.str) v.2.2 rfl)))) (ret_pT (pv_as (some v.2.1) (eO (eT D.str)) (pv_var (eT D.str) v.2.1 rfl))) (ts_skip (ts_last (ret_pT (pv_as none (eO (eT D.str)) (pv_c eU ())))))))))

noncomputable def t_joined (base : (List Str)) (kept : (List (Int × Int × Int))) (parts : (List (Option (List Str)))) : M JS (List Str) :=
  (M.bind (M.ret ([] : (List Str))) fun (lines : (List Str)) => (M.bind (forS (fun (x : (Int × (Option (List Str)))) (st : (List Str)) => (M.bind (M.bind (M.ofO x.2) fun xs => forS (fun (x_1 : Str) (st_1 : (List Str)) => (M.bind (appM st_1 x_1) fun (lines_1 : (List Str)) => (M.ret lines_1))) xs st) fun (st_2 : (List Str)) => (if (decide (x.1 < ((List.length kept : Nat) : Int))) = true then (M.bind (M.bind (M.bind (ixM kept x.1) fun (a : (Int × Int × Int)) => M.ret a.1) fun (b : Int) => (ixM base b)) fun a => M.bind (appM st_2 a) fun (lines_2 : (List Str)) => (M.ret lines_2)) else (M.ret st_2)))) (enumL parts) lines) fun (st_3 : (List Str)) => (M.ret st_3)))
theorem rf_joined (base : (List Str)) (kept : (List (Int × Int × Int))) (parts : (List (Option (List Str)))) : Ref (RD (eT D.str)) (f_joined [(eT D.str) base, (eT (eP3 D.int D.int D.int)) kept, (eL (eO (eT D.str))) parts]) (t_joined base kept parts) := by
  unfold f_joined t_joined
  refine rf_run (G := [some (.fz ((eT D.str) base)), some (.fz ((eT (eP3 D.int D.int D.int)) kept)), some (.fz ((eL (eO (eT D.str))) parts)), none, none, none, none]) ?_
  unfold m_joined
  exact (asgF_m (e := (eL D.str)) (.nil rfl) (te_p (pv_lst ([] : (List Str)) (eL D.str) pvs_nil)) fun (lines : (List Str)) => (for_p (Gs := fun (st : (List Str)) => [some (.fz ((eT D.str) base)), some (.fz ((eT (eP3 D.int D.int D.int)) kept)), some (.fz ((eL (eO (eT D.str))) parts)), some (.ow ((eL D.str) st)), none, none, none]) lines (pi_enum (sq_L _) (pvs_cons (pv_var (eL (eO (eT D.str))) parts rfl) pvs_nil)) (.s (.s (.s (.s (.n (.n (.n .nil))))))) (fun (x : (Int × (Option (List Str)))) (st : (List Str)) => (tg_tup [D.int x.1, (eO (eT D.str)) x.2] (tgs_cons tg_n (tgs_cons tg_n tgs_nil)))) (fun (x : (Int × (Option (List Str)))) (st : (List Str)) => (for_m (Gs := fun (st_1 : (List Str)) => [some (.fz ((eT D.str) base)), some (.fz ((eT (eP3 D.int D.int D.int)) kept)), some (.fz ((eL (eO (eT D.str))) parts)), some (.ow ((eL D.str) st_1)), some (.fz (D.int x.1)), some (.fz ((eO (eT D.str)) x.2)), none]) st (ti_T (te_castP (g := id) (pv_var (eO (eT D.str)) x.2 rfl) un_O)) (.s (.s (.s (.s (.s (.s (.n .nil))))))) (fun (x_1 : Str) (st_1 : (List Str)) => tg_n) (fun (x_1 : Str) (st_1 : (List Str)) => (ts_last (app_p (l := st_1) (e := D.str) (.nil rfl) rfl rfl (pv_var D.str x_1 rfl) fun (lines_1 : (List Str)) => (end_L lines_1 (.s (.s (.s (.s (.s (.s (.n .nil))))))))))) fun (st_2 : (List Str)) => (ts_last (if_p (pt_val (pv_op2 rfl (pv_var D.int x.1 rfl) (pv_cb ((List.length kept : Nat) : Int) D.int (pvs_cons (pv_var (eT (eP3 D.int D.int D.int)) kept rfl) pvs_nil) (o_lenT _ _)))) (app_m (l := st_2) (e := D.str) (.nil rfl) rfl rfl (te_op2r (e := D.str) (fun _ => rf_ixT) (pv_var (eT D.str) base rfl) (te_op2l (e := D.int) (fun _ => rf_p (by first | rfl | exact ix_P3_0 _)) (te_op2 (e := (eP3 D.int D.int D.int)) rf_ixT (pv_var (eT (eP3 D.int D.int D.int)) kept rfl) (pv_var D.int x.1 rfl)) (pv_c D.int 0))) fun (lines_2 : (List Str)) => (end_L lines_2 (.s (.s (.s (.s (.n (.n (.n .nil))))))))) (ts_skip (end_L st_2 (.s (.s (.s (.s (.n (.n (.n .nil))))))))))))) fun (st_3 : (List Str)) => (ts_last (ret_pT (pv_cb st_3 (eT D.str) (pvs_cons (pv_own (eL D.str) st_3 rfl) pvs_nil) rfl)))))

noncomputable def t_merge (base : (List Str)) (ours : (List Str)) (theirs : (List Str)) : M JS D :=
  (M.bind (t_check_three base ours theirs) fun _ => (M.bind (M.ret ([] : (List (Option (List Str))))) fun (results : (List (Option (List Str)))) => (M.bind (M.ret ([] : (List ((List Str) × (List Str) × (List Str))))) fun (clashes : (List ((List Str) × (List Str) × (List Str)))) => (M.bind (M.bind (t_stretches base ours theirs) fun xs => forS (fun (x : ((List Str) × (List Str) × (List Str))) (st : (List (Option (List Str))) × (List ((List Str) × (List Str) × (List Str)))) => (M.bind (t_merged_part x) fun (result : (Option (List Str))) => (M.bind (appM st.1 result) fun (results_1 : (List (Option (List Str)))) => (if (result).isNone = true then (M.bind (appM st.2 x) fun (clashes_1 : (List ((List Str) × (List Str) × (List Str)))) => (M.ret (results_1, clashes_1))) else (M.ret (results_1, st.2)))))) xs (results, clashes)) fun (st_1 : (List (Option (List Str))) × (List ((List Str) × (List Str) × (List Str)))) => (if (decide ((0 : Int) < ((List.length st_1.2 : Nat) : Int))) = true then (M.ret ((eP D.str (eT (eP3 (eT D.str) (eT D.str) (eT D.str)))) ((("clash" : Str), st_1.2) : (Str × (List ((List Str) × (List Str) × (List Str))))))) else (M.bind (M.bind (M.bind (M.ret ("merged" : Str)) fun a => M.bind (M.bind (M.bind (M.bind (M.ret base) fun a => M.bind (M.bind (t_kept_rows base ours theirs) fun a => M.bind (M.bind (M.ret st_1.1) fun a => M.bind (M.ret ()) fun r => M.ret (a, r)) fun r => M.ret (a, r)) fun r => M.ret (a, r)) fun p => t_joined p.1 p.2.1 p.2.2.1) fun a => M.bind (M.ret ()) fun r => M.ret (a, r)) fun r => M.ret (a, r)) fun p => M.ret ((fun p => ((p.1, p.2.1) : (Str × (List Str)))) p)) fun a => M.ret ((eP D.str (eT D.str)) a)))))))
theorem rf_merge (base : (List Str)) (ours : (List Str)) (theirs : (List Str)) : Ref (RD (id : D → D)) (f_merge [(eT D.str) base, (eT D.str) ours, (eT D.str) theirs]) (t_merge base ours theirs) := by
  unfold f_merge t_merge
  refine rf_run (G := [some (.fz ((eT D.str) base)), some (.fz ((eT D.str) ours)), some (.fz ((eT D.str) theirs)), none, none, none, none]) ?_
  unfold m_merge
  exact (expr_m (te_call (e := eU) (rf_check_three base ours theirs) (pvs_cons (pv_var (eT D.str) base rfl) (pvs_cons (pv_var (eT D.str) ours rfl) (pvs_cons (pv_var (eT D.str) theirs rfl) pvs_nil)))) (asgF_m (e := (eL (eO (eT D.str)))) (.nil rfl) (te_p (pv_lst ([] : (List (Option (List Str)))) (eL (eO (eT D.str))) pvs_nil)) fun (results : (List (Option (List Str)))) => (asgF_m (e := (eL (eP3 (eT D.str) (eT D.str) (eT D.str)))) (.nil rfl) (te_p (pv_lst ([] : (List ((List Str) × (List Str) × (List Str)))) (eL (eP3 (eT D.str) (eT D.str) (eT D.str))) pvs_nil)) fun (clashes : (List ((List Str) × (List Str) × (List Str)))) => (for_m (Gs := fun (st : (List (Option (List Str))) × (List ((List Str) × (List Str) × (List Str)))) => [some (.fz ((eT D.str) base)), some (.fz ((eT D.str) ours)), some (.fz ((eT D.str) theirs)), some (.ow ((eL (eO (eT D.str))) st.1)), some (.ow ((eL (eP3 (eT D.str) (eT D.str) (eT D.str))) st.2)), none, none]) (results, clashes) (ti_L (te_call (e := (eL (eP3 (eT D.str) (eT D.str) (eT D.str)))) (rf_stretches base ours theirs) (pvs_cons (pv_var (eT D.str) base rfl) (pvs_cons (pv_var (eT D.str) ours rfl) (pvs_cons (pv_var (eT D.str) theirs rfl) pvs_nil))))) (.s (.s (.s (.s (.s (.n (.n .nil))))))) (fun (x : ((List Str) × (List Str) × (List Str))) (st : (List (Option (List Str))) × (List ((List Str) × (List Str) × (List Str)))) => tg_n) (fun (x : ((List Str) × (List Str) × (List Str))) (st : (List (Option (List Str))) × (List ((List Str) × (List Str) × (List Str)))) => (asg_m (e := (eO (eT D.str))) (.nil rfl) (te_call (e := (eO (eT D.str))) (rf_merged_part x) (pvs_cons (pv_var (eP3 (eT D.str) (eT D.str) (eT D.str)) x rfl) pvs_nil)) fun (result : (Option (List Str))) => (app_p (l := st.1) (e := (eO (eT D.str))) (.nil rfl) rfl rfl (pv_var (eO (eT D.str)) result rfl) fun (results_1 : (List (Option (List Str)))) => (ts_last (if_p (pt_val (pv_op2 (o_is ((eT D.str)) (by intro _; rfl) _) (pv_var (eO (eT D.str)) result rfl) (pv_c eU ()))) (app_p (l := st.2) (e := (eP3 (eT D.str) (eT D.str) (eT D.str))) (.nil rfl) rfl rfl (pv_var (eP3 (eT D.str) (eT D.str) (eT D.str)) x rfl) fun (clashes_1 : (List ((List Str) × (List Str) × (List Str)))) => (end_L (results_1, clashes_1) (.s (.s (.s (.s (.s (.n (.n .nil))))))))) (ts_skip (end_L (results_1, st.2) (.s (.s (.s (.s (.s (.n (.n .nil)))))))))))))) fun (st_1 : (List (Option (List Str))) × (List ((List Str) × (List Str) × (List Str)))) => (if_p (pt_val (pv_op2 rfl (pv_cb ((List.length st_1.2 : Nat) : Int) D.int (pvs_cons (pv_own (eL (eP3 (eT D.str) (eT D.str) (eT D.str))) st_1.2 rfl) pvs_nil) (o_lenL _ _)) (pv_c D.int 0))) (ret_pT (pv_as ((eP D.str (eT (eP3 (eT D.str) (eT D.str) (eT D.str)))) ((("clash" : Str), st_1.2) : (Str × (List ((List Str) × (List Str) × (List Str)))))) (id : D → D) (pv_tup ((("clash" : Str), st_1.2) : (Str × (List ((List Str) × (List Str) × (List Str))))) (eP D.str (eT (eP3 (eT D.str) (eT D.str) (eT D.str)))) (pvs_cons (pv_c D.str "clash") (pvs_cons (pv_cb st_1.2 (eT (eP3 (eT D.str) (eT D.str) (eT D.str))) (pvs_cons (pv_own (eL (eP3 (eT D.str) (eT D.str) (eT D.str))) st_1.2 rfl) pvs_nil) rfl) pvs_nil))))) (ts_skip (ts_last (ret_t (te_map (ea := (id : D → D)) (eP D.str (eT D.str)) (te_tupm (e := (eP D.str (eT D.str))) (ta_cons (te_p (pv_c D.str "merged")) (ta_cons (te_callm (e := (eT D.str)) (ta_cons (te_p (pv_var (eT D.str) base rfl)) (ta_cons (te_call (e := (eT (eP3 D.int D.int D.int))) (rf_kept_rows base ours theirs) (pvs_cons (pv_var (eT D.str) base rfl) (pvs_cons (pv_var (eT D.str) ours rfl) (pvs_cons (pv_var (eT D.str) theirs rfl) pvs_nil)))) (ta_cons (te_p (pv_own (eL (eO (eT D.str))) st_1.1 rfl)) ta_nil))) (fun p => rf_joined p.1 p.2.1 p.2.2.1)) ta_nil)) (fun p => ((p.1, p.2.1) : (Str × (List Str))))))))))))))

noncomputable def t_merge_for (base : (List Str)) (ours : (List Str)) (theirs : (List Str)) (side : Str) : M JS (List Str) :=
  (M.bind (t_check_three base ours theirs) fun _ => (M.bind (M.ret ([] : (List (Option (List Str))))) fun (results : (List (Option (List Str)))) => (M.bind (M.bind (t_stretches base ours theirs) fun xs => forS (fun (x : ((List Str) × (List Str) × (List Str))) (st : (List (Option (List Str)))) => (M.bind (t_merged_part x) fun (result : (Option (List Str))) => (M.bind (if (result).isNone = true then (M.bind (M.ret (some x.2.1)) fun (result_1 : (Option (List Str))) => (if (decide (side = ("theirs" : Str))) = true then (M.bind (M.ret (some x.2.2)) fun (result_2 : (Option (List Str))) => (M.ret result_2)) else (M.ret result_1))) else (M.ret result)) fun (st_1 : (Option (List Str))) => (M.bind (appM st st_1) fun (results_1 : (List (Option (List Str)))) => (M.ret results_1))))) xs results) fun (st_2 : (List (Option (List Str)))) => (M.bind (M.bind (M.ret base) fun a => M.bind (M.bind (t_kept_rows base ours theirs) fun a => M.bind (M.bind (M.ret st_2) fun a => M.bind (M.ret ()) fun r => M.ret (a, r)) fun r => M.ret (a, r)) fun r => M.ret (a, r)) fun p => t_joined p.1 p.2.1 p.2.2.1))))
theorem rf_merge_for (base : (List Str)) (ours : (List Str)) (theirs : (List Str)) (side : Str) : Ref (RD (eT D.str)) (f_merge_for [(eT D.str) base, (eT D.str) ours, (eT D.str) theirs, D.str side]) (t_merge_for base ours theirs side) := by
  unfold f_merge_for t_merge_for
  refine rf_run (G := [some (.fz ((eT D.str) base)), some (.fz ((eT D.str) ours)), some (.fz ((eT D.str) theirs)), some (.fz (D.str side)), none, none, none]) ?_
  unfold m_merge_for
  exact (expr_m (te_call (e := eU) (rf_check_three base ours theirs) (pvs_cons (pv_var (eT D.str) base rfl) (pvs_cons (pv_var (eT D.str) ours rfl) (pvs_cons (pv_var (eT D.str) theirs rfl) pvs_nil)))) (asgF_m (e := (eL (eO (eT D.str)))) (.nil rfl) (te_p (pv_lst ([] : (List (Option (List Str)))) (eL (eO (eT D.str))) pvs_nil)) fun (results : (List (Option (List Str)))) => (for_m (Gs := fun (st : (List (Option (List Str)))) => [some (.fz ((eT D.str) base)), some (.fz ((eT D.str) ours)), some (.fz ((eT D.str) theirs)), some (.fz (D.str side)), some (.ow ((eL (eO (eT D.str))) st)), none, none]) results (ti_L (te_call (e := (eL (eP3 (eT D.str) (eT D.str) (eT D.str)))) (rf_stretches base ours theirs) (pvs_cons (pv_var (eT D.str) base rfl) (pvs_cons (pv_var (eT D.str) ours rfl) (pvs_cons (pv_var (eT D.str) theirs rfl) pvs_nil))))) (.s (.s (.s (.s (.s (.n (.n .nil))))))) (fun (x : ((List Str) × (List Str) × (List Str))) (st : (List (Option (List Str)))) => tg_n) (fun (x : ((List Str) × (List Str) × (List Str))) (st : (List (Option (List Str)))) => (asg_m (e := (eO (eT D.str))) (.nil rfl) (te_call (e := (eO (eT D.str))) (rf_merged_part x) (pvs_cons (pv_var (eP3 (eT D.str) (eT D.str) (eT D.str)) x rfl) pvs_nil)) fun (result : (Option (List Str))) => (ts_cut (Gs := fun (st_1 : (Option (List Str))) => [some (.fz ((eT D.str) base)), some (.fz ((eT D.str) ours)), some (.fz ((eT D.str) theirs)), some (.fz (D.str side)), some (.ow ((eL (eO (eT D.str))) st)), some (.fz ((eP3 (eT D.str) (eT D.str) (eT D.str)) x)), some (.fz ((eO (eT D.str)) st_1))]) (ts_last (if_p (pt_val (pv_op2 (o_is ((eT D.str)) (by intro _; rfl) _) (pv_var (eO (eT D.str)) result rfl) (pv_c eU ()))) (ts_assoc (asg_m (e := (eO (eT D.str))) (.nil rfl) (te_p (pv_as (some x.2.1) (eO (eT D.str)) (pv_op2 (by first | rfl | exact ix_P3_1 _) (pv_var (eP3 (eT D.str) (eT D.str) (eT D.str)) x rfl) (pv_c D.int 1)))) fun (result_1 : (Option (List Str))) => (if_p (pt_val (pv_op2 (o_eq cm_str _ _) (pv_var D.str side rfl) (pv_c D.str "theirs"))) (asg_m (e := (eO (eT D.str))) (.nil rfl) (te_p (pv_as (some x.2.2) (eO (eT D.str)) (pv_op2 (by first | rfl | exact ix_P3_2 _) (pv_var (eP3 (eT D.str) (eT D.str) (eT D.str)) x rfl) (pv_c D.int 2)))) fun (result_2 : (Option (List Str))) => (end_N result_2 (.s (.s (.s (.s (.s (.s (.s .nil))))))))) (ts_skip (end_N result_1 (.s (.s (.s (.s (.s (.s (.s .nil)))))))))))) (ts_skip (end_N result (.s (.s (.s (.s (.s (.s (.s .nil))))))))))) fun (st_1 : (Option (List Str))) => (ts_last (app_p (l := st) (e := (eO (eT D.str))) (.nil rfl) rfl rfl (pv_var (eO (eT D.str)) st_1 rfl) fun (results_1 : (List (Option (List Str)))) => (end_L results_1 (.s (.s (.s (.s (.s (.n (.n .nil))))))))))))) fun (st_2 : (List (Option (List Str)))) => (ts_last (ret_t (te_callm (e := (eT D.str)) (ta_cons (te_p (pv_var (eT D.str) base rfl)) (ta_cons (te_call (e := (eT (eP3 D.int D.int D.int))) (rf_kept_rows base ours theirs) (pvs_cons (pv_var (eT D.str) base rfl) (pvs_cons (pv_var (eT D.str) ours rfl) (pvs_cons (pv_var (eT D.str) theirs rfl) pvs_nil)))) (ta_cons (te_p (pv_own (eL (eO (eT D.str))) st_2 rfl)) ta_nil))) (fun p => rf_joined p.1 p.2.1 p.2.2.1)))))))

noncomputable def t_merge_for_D (base : D) (ours : D) (theirs : D) (side : Str) : M JS (List Str) :=
  (M.bind (t_check_three_D base ours theirs) fun _ => (M.bind (M.ret ([] : (List (Option (List Str))))) fun (results : (List (Option (List Str)))) => (M.bind (M.bind (M.bind (M.bind (M.ofO (asTS base)) fun a => M.bind (M.bind (M.ofO (asTS ours)) fun a => M.bind (M.bind (M.ofO (asTS theirs)) fun a => M.bind (M.ret ()) fun r => M.ret (a, r)) fun r => M.ret (a, r)) fun r => M.ret (a, r)) fun p => t_stretches p.1 p.2.1 p.2.2.1) fun xs => forS (fun (x : ((List Str) × (List Str) × (List Str))) (st : (List (Option (List Str)))) => (M.bind (t_merged_part x) fun (result : (Option (List Str))) => (M.bind (if (result).isNone = true then (M.bind (M.ret (some x.2.1)) fun (result_1 : (Option (List Str))) => (if (decide (side = ("theirs" : Str))) = true then (M.bind (M.ret (some x.2.2)) fun (result_2 : (Option (List Str))) => (M.ret result_2)) else (M.ret result_1))) else (M.ret result)) fun (st_1 : (Option (List Str))) => (M.bind (appM st st_1) fun (results_1 : (List (Option (List Str)))) => (M.ret results_1))))) xs results) fun (st_2 : (List (Option (List Str)))) => (M.bind (M.bind (M.ofO (asTS base)) fun a => M.bind (M.bind (M.bind (M.bind (M.ofO (asTS base)) fun a => M.bind (M.bind (M.ofO (asTS ours)) fun a => M.bind (M.bind (M.ofO (asTS theirs)) fun a => M.bind (M.ret ()) fun r => M.ret (a, r)) fun r => M.ret (a, r)) fun r => M.ret (a, r)) fun p => t_kept_rows p.1 p.2.1 p.2.2.1) fun a => M.bind (M.bind (M.ret st_2) fun a => M.bind (M.ret ()) fun r => M.ret (a, r)) fun r => M.ret (a, r)) fun r => M.ret (a, r)) fun p => t_joined p.1 p.2.1 p.2.2.1))))
theorem rf_merge_for_D (base : D) (ours : D) (theirs : D) (side : Str) : Ref (RD (eT D.str)) (f_merge_for [(id : D → D) base, (id : D → D) ours, (id : D → D) theirs, D.str side]) (t_merge_for_D base ours theirs side) := by
  unfold f_merge_for t_merge_for_D
  refine rf_run (G := [some (.fz ((id : D → D) base)), some (.fz ((id : D → D) ours)), some (.fz ((id : D → D) theirs)), some (.fz (D.str side)), none, none, none]) ?_
  unfold m_merge_for
  exact (expr_m (te_call (e := eU) (rf_check_three_D base ours theirs) (pvs_cons (pv_var (id : D → D) base rfl) (pvs_cons (pv_var (id : D → D) ours rfl) (pvs_cons (pv_var (id : D → D) theirs rfl) pvs_nil)))) (asgF_m (e := (eL (eO (eT D.str)))) (.nil rfl) (te_p (pv_lst ([] : (List (Option (List Str)))) (eL (eO (eT D.str))) pvs_nil)) fun (results : (List (Option (List Str)))) => (for_m (Gs := fun (st : (List (Option (List Str)))) => [some (.fz ((id : D → D) base)), some (.fz ((id : D → D) ours)), some (.fz ((id : D → D) theirs)), some (.fz (D.str side)), some (.ow ((eL (eO (eT D.str))) st)), none, none]) results (ti_L (te_callm (e := (eL (eP3 (eT D.str) (eT D.str) (eT D.str)))) (ta_cons (te_castP (g := asTS) (pv_var (id : D → D) base rfl) asTS_ok) (ta_cons (te_castP (g := asTS) (pv_var (id : D → D) ours rfl) asTS_ok) (ta_cons (te_castP (g := asTS) (pv_var (id : D → D) theirs rfl) asTS_ok) ta_nil))) (fun p => rf_stretches p.1 p.2.1 p.2.2.1))) (.s (.s (.s (.s (.s (.n (.n .nil))))))) (fun (x : ((List Str) × (List Str) × (List Str))) (st : (List (Option (List Str)))) => tg_n) (fun (x : ((List Str) × (List Str) × (List Str))) (st : (List (Option (List Str)))) => (asg_m (e := (eO (eT D.str))) (.nil rfl) (te_call (e := (eO (eT D.str))) (rf_merged_part x) (pvs_cons (pv_var (eP3 (eT D.str) (eT D.str) (eT D.str)) x rfl) pvs_nil)) fun (result : (Option (List Str))) => (ts_cut (Gs := fun (st_1 : (Option (List Str))) => [some (.fz ((id : D → D) base)), some (.fz ((id : D → D) ours)), some (.fz ((id : D → D) theirs)), some (.fz (D.str side)), some (.ow ((eL (eO (eT D.str))) st)), some (.fz ((eP3 (eT D.str) (eT D.str) (eT D.str)) x)), some (.fz ((eO (eT D.str)) st_1))]) (ts_last (if_p (pt_val (pv_op2 (o_is ((eT D.str)) (by intro _; rfl) _) (pv_var (eO (eT D.str)) result rfl) (pv_c eU ()))) (ts_assoc (asg_m (e := (eO (eT D.str))) (.nil rfl) (te_p (pv_as (some x.2.1) (eO (eT D.str)) (pv_op2 (by first | rfl | exact ix_P3_1 _) (pv_var (eP3 (eT D.str) (eT D.str) (eT D.str)) x rfl) (pv_c D.int 1)))) fun (result_1 : (Option (List Str))) => (if_p (pt_val (pv_op2 (o_eq cm_str _ _) (pv_var D.str side rfl) (pv_c D.str "theirs"))) (asg_m (e := (eO (eT D.str))) (.nil rfl) (te_p (pv_as (some x.2.2) (eO (eT D.str)) (pv_op2 (by first | rfl | exact ix_P3_2 _) (pv_var (eP3 (eT D.str) (eT D.str) (eT D.str)) x rfl) (pv_c D.int 2)))) fun (result_2 : (Option (List Str))) => (end_N result_2 (.s (.s (.s (.s (.s (.s (.s .nil))))))))) (ts_skip (end_N result_1 (.s (.s (.s (.s (.s (.s (.s .nil)))))))))))) (ts_skip (end_N result (.s (.s (.s (.s (.s (.s (.s .nil))))))))))) fun (st_1 : (Option (List Str))) => (ts_last (app_p (l := st) (e := (eO (eT D.str))) (.nil rfl) rfl rfl (pv_var (eO (eT D.str)) st_1 rfl) fun (results_1 : (List (Option (List Str)))) => (end_L results_1 (.s (.s (.s (.s (.s (.n (.n .nil))))))))))))) fun (st_2 : (List (Option (List Str)))) => (ts_last (ret_t (te_callm (e := (eT D.str)) (ta_cons (te_castP (g := asTS) (pv_var (id : D → D) base rfl) asTS_ok) (ta_cons (te_callm (e := (eT (eP3 D.int D.int D.int))) (ta_cons (te_castP (g := asTS) (pv_var (id : D → D) base rfl) asTS_ok) (ta_cons (te_castP (g := asTS) (pv_var (id : D → D) ours rfl) asTS_ok) (ta_cons (te_castP (g := asTS) (pv_var (id : D → D) theirs rfl) asTS_ok) ta_nil))) (fun p => rf_kept_rows p.1 p.2.1 p.2.2.1)) (ta_cons (te_p (pv_own (eL (eO (eT D.str))) st_2 rfl)) ta_nil))) (fun p => rf_joined p.1 p.2.1 p.2.2.1)))))))

noncomputable def t__law_pick {a : Type} (A0 A1 : Addr) (jar : Unit) (rows : (List a)) : M JS a :=
  (M.bind (t__law_take A0 A1 jar ((List.length rows : Nat) : Int)) fun (b : Int) => (ixM rows b))
theorem rf__law_pick {a : Type} (e_a : a → D) (A0 A1 : Addr) (jar : Unit) (rows : (List a)) : Ref (RD e_a) (f__law_pick A0 A1 [(eJ A0) jar, (eL e_a) rows]) (t__law_pick A0 A1 jar rows) := by
  unfold f__law_pick t__law_pick
  refine rf_run (G := [some (.fz ((eJ A0) jar)), some (.fz ((eL e_a) rows))]) ?_
  unfold m__law_pick
  exact (ts_last (ret_t (te_op2r (e := e_a) (fun _ => rf_ixL) (pv_var (eL e_a) rows rfl) (te_call (e := D.int) (rf__law_take A0 A1 jar ((List.length rows : Nat) : Int)) (pvs_cons (pv_var (eJ A0) jar rfl) (pvs_cons (pv_cb ((List.length rows : Nat) : Int) D.int (pvs_cons (pv_var (eL e_a) rows rfl) pvs_nil) (o_lenL _ _)) pvs_nil))))))

noncomputable def t__law_pick_T {a : Type} (A0 A1 : Addr) (jar : Unit) (rows : (List a)) : M JS a :=
  (M.bind (t__law_take A0 A1 jar ((List.length rows : Nat) : Int)) fun (b : Int) => (ixM rows b))
theorem rf__law_pick_T {a : Type} (e_a : a → D) (A0 A1 : Addr) (jar : Unit) (rows : (List a)) : Ref (RD e_a) (f__law_pick A0 A1 [(eJ A0) jar, (eT e_a) rows]) (t__law_pick_T A0 A1 jar rows) := by
  unfold f__law_pick t__law_pick_T
  refine rf_run (G := [some (.fz ((eJ A0) jar)), some (.fz ((eT e_a) rows))]) ?_
  unfold m__law_pick
  exact (ts_last (ret_t (te_op2r (e := e_a) (fun _ => rf_ixT) (pv_var (eT e_a) rows rfl) (te_call (e := D.int) (rf__law_take A0 A1 jar ((List.length rows : Nat) : Int)) (pvs_cons (pv_var (eJ A0) jar rfl) (pvs_cons (pv_cb ((List.length rows : Nat) : Int) D.int (pvs_cons (pv_var (eT e_a) rows rfl) pvs_nil) (o_lenT _ _)) pvs_nil))))))

noncomputable def t__law_table (one : (List Str)) (two : (List Str)) : M JS (List (List Int)) :=
  (M.bind (DD.noex (rng1 (((List.length one : Nat) : Int) + (1 : Int)))) fun xs => M.bind (lcM (fun _ => M.ret true) (fun (x : Int) => (repM ([(0 : Int)] : (List Int)) (((List.length two : Nat) : Int) + (1 : Int)))) xs) fun t0 => tabX (M.bind (M.bind (rng1 ((List.length one : Nat) : Int)) fun xs => forS (fun (x_1 : Int) (st : Unit) => (M.bind (M.ret ((((List.length one : Nat) : Int) - (1 : Int)) - x_1)) fun (i : Int) => (M.bind (M.bind (rng1 ((List.length two : Nat) : Int)) fun xs => forS (fun (x_2 : Int) (st_1 : Unit) => (M.bind (M.ret ((((List.length two : Nat) : Int) - (1 : Int)) - x_2)) fun (j : Int) => (M.bind (M.bind (ixM one i) fun (a : Str) => M.bind (ixM two j) fun (b : Str) => M.ret (decide (a = b))) fun b => if b = true then (M.bind (M.bind (M.bind (tabG (i + (1 : Int)) (j + (1 : Int))) fun (b : Int) => M.ret ((1 : Int) + b)) fun (c : Int) => tabP i j c) fun _ => (M.ret ())) else (M.bind (M.bind (M.bind (M.bind (tabG (i + (1 : Int)) j) fun a => M.bind (M.bind (tabG i (j + (1 : Int))) fun a => M.bind (M.ret ()) fun r => M.ret (a, r)) fun r => M.ret (a, r)) fun p => M.ret (if (p.2.1 : Int) > (p.1 : Int) then (p.2.1 : Int) else (p.1 : Int))) fun (c : Int) => tabP i j c) fun _ => (M.ret ()))))) xs ()) fun (st_2 : Unit) => (M.ret ())))) xs ()) fun (st_3 : Unit) => (M.ret ())) t0)
theorem rf__law_table (one : (List Str)) (two : (List Str)) : Ref (RD (eL (eL D.int))) (f__law_table [(eT D.str) one, (eT D.str) two]) (t__law_table one two) := by
  unfold f__law_table t__law_table
  refine rf_run (G := [some (.fz ((eT D.str) one)), some (.fz ((eT D.str) two)), none, none, none, none, none]) ?_
  unfold m__law_table
  exact (ts_tabs (ti_rng1p (pvs_cons (pv_addI (pv_cb ((List.length one : Nat) : Int) D.int (pvs_cons (pv_var (eT D.str) one rfl) pvs_nil) (o_lenT _ _)) (pv_c D.int 1)) pvs_nil)) (fun (x : Int) => tg_n) (fun (x : Int) => (te_repL (pv_lst ([(0 : Int)] : (List Int)) (eL D.int) (pvs_cons (pv_c D.int 0) pvs_nil)) (pv_addI (pv_cb ((List.length two : Nat) : Int) D.int (pvs_cons (pv_var (eT D.str) two rfl) pvs_nil) (o_lenT _ _)) (pv_c D.int 1)))) fun iZ => (for_m (Gs := fun (st : Unit) => [some (.fz ((eT D.str) one)), some (.fz ((eT D.str) two)), some (.fz ((eJ iZ.1) ())), none, none, none, none]) () (ti_rng1p (pvs_cons (pv_cb ((List.length one : Nat) : Int) D.int (pvs_cons (pv_var (eT D.str) one rfl) pvs_nil) (o_lenT _ _)) pvs_nil)) (.s (.s (.s (.n (.n (.n (.n .nil))))))) (fun (x_1 : Int) (st : Unit) => tg_n) (fun (x_1 : Int) (st : Unit) => (asg_m (e := D.int) (.nil rfl) (te_p (pv_subI (pv_subI (pv_cb ((List.length one : Nat) : Int) D.int (pvs_cons (pv_var (eT D.str) one rfl) pvs_nil) (o_lenT _ _)) (pv_c D.int 1)) (pv_var D.int x_1 rfl))) fun (i : Int) => (ts_last (for_m (Gs := fun (st_1 : Unit) => [some (.fz ((eT D.str) one)), some (.fz ((eT D.str) two)), some (.fz ((eJ iZ.1) ())), some (.fz (D.int x_1)), some (.fz (D.int i)), none, none]) () (ti_rng1p (pvs_cons (pv_cb ((List.length two : Nat) : Int) D.int (pvs_cons (pv_var (eT D.str) two rfl) pvs_nil) (o_lenT _ _)) pvs_nil)) (.s (.s (.s (.s (.s (.n (.n .nil))))))) (fun (x_2 : Int) (st_1 : Unit) => tg_n) (fun (x_2 : Int) (st_1 : Unit) => (asg_m (e := D.int) (.nil rfl) (te_p (pv_subI (pv_subI (pv_cb ((List.length two : Nat) : Int) D.int (pvs_cons (pv_var (eT D.str) two rfl) pvs_nil) (o_lenT _ _)) (pv_c D.int 1)) (pv_var D.int x_2 rfl))) fun (j : Int) => (ts_last (if_m (tt_val (te_op2m (e := D.bl) (fun _ _ => rf_p (o_eq cm_str _ _)) (te_op2 (e := D.str) rf_ixT (pv_var (eT D.str) one rfl) (pv_var D.int i rfl)) (te_op2 (e := D.str) rf_ixT (pv_var (eT D.str) two rfl) (pv_var D.int j rfl)))) (ts_tab2 rfl (te_op2r (e := D.int) (fun _ => rf_p rfl) (pv_c D.int 1) (te_tab2 rfl (pv_addI (pv_var D.int i rfl) (pv_c D.int 1)) (pv_addI (pv_var D.int j rfl) (pv_c D.int 1)))) (pv_var D.int i rfl) (pv_var D.int j rfl) (end_L () (.s (.s (.s (.s (.s (.n (.n .nil))))))))) (ts_tab2 rfl (te_cbm (e := D.int) (ta_cons (te_tab2 rfl (pv_addI (pv_var D.int i rfl) (pv_c D.int 1)) (pv_var D.int j rfl)) (ta_cons (te_tab2 rfl (pv_var D.int i rfl) (pv_addI (pv_var D.int j rfl) (pv_c D.int 1))) ta_nil)) (fun _ => rf_p rfl)) (pv_var D.int i rfl) (pv_var D.int j rfl) (end_L () (.s (.s (.s (.s (.s (.n (.n .nil))))))))))))) fun (st_2 : Unit) => (end_L () (.s (.s (.s (.n (.n (.n (.n .nil)))))))))))) fun (st_3 : Unit) => (ts_last (ret_pT (pv_var (eJ iZ.1) () rfl)))))

noncomputable def t__law_align (one : (List Str)) (two : (List Str)) : M JS (List (Int × Int)) :=
  (M.bind (t__law_table one two) fun (table : (List (List Int))) => (M.bind (M.ret ([] : (List (Int × Int)))) fun (pairs : (List (Int × Int))) => (M.bind (M.ret (0 : Int)) fun (i : Int) => (M.bind (M.ret (0 : Int)) fun (j : Int) => (M.bind (M.bind (rng1 (((List.length one : Nat) : Int) + ((List.length two : Nat) : Int))) fun xs => forS (fun (x : Int) (st : (List (Int × Int)) × Int × Int) => (if ((decide (st.2.1 < ((List.length one : Nat) : Int))) && (decide (st.2.2 < ((List.length two : Nat) : Int)))) = true then (M.bind (M.bind (ixM one st.2.1) fun (a : Str) => M.bind (ixM two st.2.2) fun (b : Str) => M.ret (decide (a = b))) fun b => if b = true then (M.bind (appM st.1 ((st.2.1, st.2.2) : (Int × Int))) fun (pairs_1 : (List (Int × Int))) => (M.bind (M.ret (st.2.1 + (1 : Int))) fun (i_1 : Int) => (M.bind (M.ret (st.2.2 + (1 : Int))) fun (j_1 : Int) => (M.ret (pairs_1, i_1, j_1))))) else (M.bind (M.bind (M.bind (ixM table (st.2.1 + (1 : Int))) fun (a : (List Int)) => (ixM a st.2.2)) fun (a : Int) => M.bind (M.bind (ixM table st.2.1) fun (a : (List Int)) => (ixM a (st.2.2 + (1 : Int)))) fun (b : Int) => M.ret (decide (b ≤ a))) fun b => if b = true then (M.bind (M.ret (st.2.1 + (1 : Int))) fun (i_2 : Int) => (M.ret (st.1, i_2, st.2.2))) else (M.bind (M.ret (st.2.2 + (1 : Int))) fun (j_2 : Int) => (M.ret (st.1, st.2.1, j_2))))) else (M.ret (st.1, st.2.1, st.2.2)))) xs (pairs, i, j)) fun (st_1 : (List (Int × Int)) × Int × Int) => (M.ret st_1.1))))))
theorem rf__law_align (one : (List Str)) (two : (List Str)) : Ref (RD (eT (eP D.int D.int))) (f__law_align [(eT D.str) one, (eT D.str) two]) (t__law_align one two) := by
  unfold f__law_align t__law_align
  refine rf_run (G := [some (.fz ((eT D.str) one)), some (.fz ((eT D.str) two)), none, none, none, none, none]) ?_
  unfold m__law_align
  exact (asg_m (e := (eL (eL D.int))) (.nil rfl) (te_call (e := (eL (eL D.int))) (rf__law_table one two) (pvs_cons (pv_var (eT D.str) one rfl) (pvs_cons (pv_var (eT D.str) two rfl) pvs_nil))) fun (table : (List (List Int))) => (asgF_m (e := (eL (eP D.int D.int))) (.nil rfl) (te_p (pv_lst ([] : (List (Int × Int))) (eL (eP D.int D.int)) pvs_nil)) fun (pairs : (List (Int × Int))) => (asg_m (e := D.int) (.nil rfl) (te_p (pv_c D.int 0)) fun (i : Int) => (asg_m (e := D.int) (.nil rfl) (te_p (pv_c D.int 0)) fun (j : Int) => (for_m (Gs := fun (st : (List (Int × Int)) × Int × Int) => [some (.fz ((eT D.str) one)), some (.fz ((eT D.str) two)), some (.fz ((eL (eL D.int)) table)), some (.ow ((eL (eP D.int D.int)) st.1)), some (.fz (D.int st.2.1)), some (.fz (D.int st.2.2)), none]) (pairs, i, j) (ti_rng1p (pvs_cons (pv_addI (pv_cb ((List.length one : Nat) : Int) D.int (pvs_cons (pv_var (eT D.str) one rfl) pvs_nil) (o_lenT _ _)) (pv_cb ((List.length two : Nat) : Int) D.int (pvs_cons (pv_var (eT D.str) two rfl) pvs_nil) (o_lenT _ _))) pvs_nil)) (.s (.s (.s (.s (.s (.s (.n .nil))))))) (fun (x : Int) (st : (List (Int × Int)) × Int × Int) => tg_n) (fun (x : Int) (st : (List (Int × Int)) × Int × Int) => (ts_last (if_p (pt_and (pt_val (pv_op2 rfl (pv_var D.int st.2.1 rfl) (pv_cb ((List.length one : Nat) : Int) D.int (pvs_cons (pv_var (eT D.str) one rfl) pvs_nil) (o_lenT _ _)))) (pt_val (pv_op2 rfl (pv_var D.int st.2.2 rfl) (pv_cb ((List.length two : Nat) : Int) D.int (pvs_cons (pv_var (eT D.str) two rfl) pvs_nil) (o_lenT _ _))))) (if_m (tt_val (te_op2m (e := D.bl) (fun _ _ => rf_p (o_eq cm_str _ _)) (te_op2 (e := D.str) rf_ixT (pv_var (eT D.str) one rfl) (pv_var D.int st.2.1 rfl)) (te_op2 (e := D.str) rf_ixT (pv_var (eT D.str) two rfl) (pv_var D.int st.2.2 rfl)))) (ts_assoc (app_p (l := st.1) (e := (eP D.int D.int)) (.nil rfl) rfl rfl (pv_tup ((st.2.1, st.2.2) : (Int × Int)) (eP D.int D.int) (pvs_cons (pv_var D.int st.2.1 rfl) (pvs_cons (pv_var D.int st.2.2 rfl) pvs_nil))) fun (pairs_1 : (List (Int × Int))) => (ts_assoc (asg_m (e := D.int) (.nil rfl) (te_p (pv_addI (pv_var D.int st.2.1 rfl) (pv_c D.int 1))) fun (i_1 : Int) => (asg_m (e := D.int) (.nil rfl) (te_p (pv_addI (pv_var D.int st.2.2 rfl) (pv_c D.int 1))) fun (j_1 : Int) => (end_L (pairs_1, i_1, j_1) (.s (.s (.s (.s (.s (.s (.n .nil))))))))))))) (if_m (tt_val (te_op2m (e := D.bl) (fun _ _ => rf_p rfl) (te_op2l (e := D.int) (fun _ => rf_ixL) (te_op2 (e := (eL D.int)) rf_ixL (pv_var (eL (eL D.int)) table rfl) (pv_addI (pv_var D.int st.2.1 rfl) (pv_c D.int 1))) (pv_var D.int st.2.2 rfl)) (te_op2l (e := D.int) (fun _ => rf_ixL) (te_op2 (e := (eL D.int)) rf_ixL (pv_var (eL (eL D.int)) table rfl) (pv_var D.int st.2.1 rfl)) (pv_addI (pv_var D.int st.2.2 rfl) (pv_c D.int 1))))) (asg_m (e := D.int) (.nil rfl) (te_p (pv_addI (pv_var D.int st.2.1 rfl) (pv_c D.int 1))) fun (i_2 : Int) => (end_L (st.1, i_2, st.2.2) (.s (.s (.s (.s (.s (.s (.n .nil))))))))) (asg_m (e := D.int) (.nil rfl) (te_p (pv_addI (pv_var D.int st.2.2 rfl) (pv_c D.int 1))) fun (j_2 : Int) => (end_L (st.1, st.2.1, j_2) (.s (.s (.s (.s (.s (.s (.n .nil))))))))))) (ts_skip (end_L (st.1, st.2.1, st.2.2) (.s (.s (.s (.s (.s (.s (.n .nil)))))))))))) fun (st_1 : (List (Int × Int)) × Int × Int) => (ts_last (ret_pT (pv_cb st_1.1 (eT (eP D.int D.int)) (pvs_cons (pv_own (eL (eP D.int D.int)) st_1.1 rfl) pvs_nil) rfl))))))))

noncomputable def t__law_lines (A0 A1 : Addr) (jar : Unit) (most : Int) : M JS (List Str) :=
  (M.bind (M.bind (M.bind (M.bind (t__law_take A0 A1 jar (most + (1 : Int))) fun j => rng1 j) (lcM (fun (x : Int) => (M.ret true)) (fun (x : Int) => (t__law_pick A0 A1 jar ([("a" : Str), ("b" : Str), ("c" : Str), ("" : Str)] : (List Str)))))) fun a => M.bind (M.ret ()) fun r => M.ret (a, r)) fun p => M.ret (p.1 : (List Str)))
theorem rf__law_lines (A0 A1 : Addr) (jar : Unit) (most : Int) : Ref (RD (eT D.str)) (f__law_lines A0 A1 [(eJ A0) jar, D.int most]) (t__law_lines A0 A1 jar most) := by
  unfold f__law_lines t__law_lines
  refine rf_run (G := [some (.fz ((eJ A0) jar)), some (.fz (D.int most)), none]) ?_
  unfold m__law_lines
  exact (ts_last (ret_t (te_cbm (e := (eT D.str)) (ta_cons (te_lcm (ti_rng1m (te_call (e := D.int) (rf__law_take A0 A1 jar (most + (1 : Int))) (pvs_cons (pv_var (eJ A0) jar rfl) (pvs_cons (pv_addI (pv_var D.int most rfl) (pv_c D.int 1)) pvs_nil)))) (fun (x : Int) => tg_n) (fun (x : Int) => (tt_p pt_yes)) (fun (x : Int) => (te_call (e := D.str) (rf__law_pick D.str A0 A1 jar ([("a" : Str), ("b" : Str), ("c" : Str), ("" : Str)] : (List Str))) (pvs_cons (pv_var (eJ A0) jar rfl) (pvs_cons (pv_lst ([("a" : Str), ("b" : Str), ("c" : Str), ("" : Str)] : (List Str)) (eL D.str) (pvs_cons (pv_c D.str "a") (pvs_cons (pv_c D.str "b") (pvs_cons (pv_c D.str "c") (pvs_cons (pv_c D.str "") pvs_nil))))) pvs_nil))))) ta_nil) (fun _ => rf_p rfl))))

noncomputable def t__law_edit (A0 A1 : Addr) (jar : Unit) (base : (List Str)) : M JS (List Str) :=
  (M.bind (M.ret ([] : (List Str))) fun (lines : (List Str)) => (M.bind (forS (fun (x : Str) (st : (List Str)) => (M.bind (t__law_take A0 A1 jar (6 : Int)) fun (deed : Int) => (M.bind (if (decide (deed < (3 : Int))) = true then (M.bind (appM st x) fun (lines_1 : (List Str)) => (M.ret lines_1)) else (M.ret st)) fun (st_1 : (List Str)) => (M.bind (if ((decide (deed = (3 : Int))) || (decide (deed = (4 : Int)))) = true then (M.bind (t__law_pick A0 A1 jar ([("x" : Str), ("a" : Str), ("b" : Str), ("y" : Str)] : (List Str))) fun a => M.bind (appM st_1 a) fun (lines_2 : (List Str)) => (M.ret lines_2)) else (M.ret st_1)) fun (st_2 : (List Str)) => (if (decide (deed = (4 : Int))) = true then (M.bind (appM st_2 x) fun (lines_3 : (List Str)) => (M.ret lines_3)) else (M.ret st_2)))))) base lines) fun (st_3 : (List Str)) => (M.bind (M.bind (M.bind (t__law_take A0 A1 jar (3 : Int)) fun (a : Int) => M.ret (decide (a = (2 : Int)))) fun b => if b = true then (M.bind (t__law_pick A0 A1 jar ([("x" : Str), ("a" : Str), ("b" : Str), ("y" : Str)] : (List Str))) fun a => M.bind (appM st_3 a) fun (lines_4 : (List Str)) => (M.ret lines_4)) else (M.ret st_3)) fun (st_4 : (List Str)) => (M.ret st_4))))
theorem rf__law_edit (A0 A1 : Addr) (jar : Unit) (base : (List Str)) : Ref (RD (eT D.str)) (f__law_edit A0 A1 [(eJ A0) jar, (eT D.str) base]) (t__law_edit A0 A1 jar base) := by
  unfold f__law_edit t__law_edit
  refine rf_run (G := [some (.fz ((eJ A0) jar)), some (.fz ((eT D.str) base)), none, none, none]) ?_
  unfold m__law_edit
  exact (asgF_m (e := (eL D.str)) (.nil rfl) (te_p (pv_lst ([] : (List Str)) (eL D.str) pvs_nil)) fun (lines : (List Str)) => (for_p (Gs := fun (st : (List Str)) => [some (.fz ((eJ A0) jar)), some (.fz ((eT D.str) base)), some (.ow ((eL D.str) st)), none, none]) lines (pi_T (pv_var (eT D.str) base rfl)) (.s (.s (.s (.n (.n .nil))))) (fun (x : Str) (st : (List Str)) => tg_n) (fun (x : Str) (st : (List Str)) => (asg_m (e := D.int) (.nil rfl) (te_call (e := D.int) (rf__law_take A0 A1 jar (6 : Int)) (pvs_cons (pv_var (eJ A0) jar rfl) (pvs_cons (pv_c D.int 6) pvs_nil))) fun (deed : Int) => (ts_cut (Gs := fun (st_1 : (List Str)) => [some (.fz ((eJ A0) jar)), some (.fz ((eT D.str) base)), some (.ow ((eL D.str) st_1)), some (.fz (D.str x)), some (.fz (D.int deed))]) (ts_last (if_p (pt_val (pv_op2 rfl (pv_var D.int deed rfl) (pv_c D.int 3))) (app_p (l := st) (e := D.str) (.nil rfl) rfl rfl (pv_var D.str x rfl) fun (lines_1 : (List Str)) => (end_N lines_1 (.s (.s (.s (.s (.s .nil))))))) (ts_skip (end_N st (.s (.s (.s (.s (.s .nil))))))))) fun (st_1 : (List Str)) => (ts_cut (Gs := fun (st_2 : (List Str)) => [some (.fz ((eJ A0) jar)), some (.fz ((eT D.str) base)), some (.ow ((eL D.str) st_2)), some (.fz (D.str x)), some (.fz (D.int deed))]) (ts_last (if_p (pt_or (pt_val (pv_op2 (o_eq cm_int _ _) (pv_var D.int deed rfl) (pv_c D.int 3))) (pt_val (pv_op2 (o_eq cm_int _ _) (pv_var D.int deed rfl) (pv_c D.int 4)))) (app_m (l := st_1) (e := D.str) (.nil rfl) rfl rfl (te_call (e := D.str) (rf__law_pick D.str A0 A1 jar ([("x" : Str), ("a" : Str), ("b" : Str), ("y" : Str)] : (List Str))) (pvs_cons (pv_var (eJ A0) jar rfl) (pvs_cons (pv_lst ([("x" : Str), ("a" : Str), ("b" : Str), ("y" : Str)] : (List Str)) (eL D.str) (pvs_cons (pv_c D.str "x") (pvs_cons (pv_c D.str "a") (pvs_cons (pv_c D.str "b") (pvs_cons (pv_c D.str "y") pvs_nil))))) pvs_nil))) fun (lines_2 : (List Str)) => (end_N lines_2 (.s (.s (.s (.s (.s .nil))))))) (ts_skip (end_N st_1 (.s (.s (.s (.s (.s .nil))))))))) fun (st_2 : (List Str)) => (ts_last (if_p (pt_val (pv_op2 (o_eq cm_int _ _) (pv_var D.int deed rfl) (pv_c D.int 4))) (app_p (l := st_2) (e := D.str) (.nil rfl) rfl rfl (pv_var D.str x rfl) fun (lines_3 : (List Str)) => (end_L lines_3 (.s (.s (.s (.n (.n .nil))))))) (ts_skip (end_L st_2 (.s (.s (.s (.n (.n .nil))))))))))))) fun (st_3 : (List Str)) => (ts_cut (Gs := fun (st_4 : (List Str)) => [some (.fz ((eJ A0) jar)), some (.fz ((eT D.str) base)), some (.ow ((eL D.str) st_4)), none, none]) (ts_last (if_m (tt_val (te_op2l (e := D.bl) (fun _ => rf_p (o_eq cm_int _ _)) (te_call (e := D.int) (rf__law_take A0 A1 jar (3 : Int)) (pvs_cons (pv_var (eJ A0) jar rfl) (pvs_cons (pv_c D.int 3) pvs_nil))) (pv_c D.int 2))) (app_m (l := st_3) (e := D.str) (.nil rfl) rfl rfl (te_call (e := D.str) (rf__law_pick D.str A0 A1 jar ([("x" : Str), ("a" : Str), ("b" : Str), ("y" : Str)] : (List Str))) (pvs_cons (pv_var (eJ A0) jar rfl) (pvs_cons (pv_lst ([("x" : Str), ("a" : Str), ("b" : Str), ("y" : Str)] : (List Str)) (eL D.str) (pvs_cons (pv_c D.str "x") (pvs_cons (pv_c D.str "a") (pvs_cons (pv_c D.str "b") (pvs_cons (pv_c D.str "y") pvs_nil))))) pvs_nil))) fun (lines_4 : (List Str)) => (end_N lines_4 (.s (.s (.s (.n (.n .nil))))))) (ts_skip (end_N st_3 (.s (.s (.s (.n (.n .nil))))))))) fun (st_4 : (List Str)) => (ts_last (ret_pT (pv_cb st_4 (eT D.str) (pvs_cons (pv_own (eL D.str) st_4 rfl) pvs_nil) rfl))))))

noncomputable def t__law_kept (base : (List Str)) (ours : (List Str)) (theirs : (List Str)) : M JS (List (Int × Int × Int)) :=
  (M.bind (t__law_align base ours) fun (left : (List (Int × Int))) => (M.bind (t__law_align base theirs) fun (right : (List (Int × Int))) => (M.bind (M.ret ([] : (List (Int × Int × Int)))) fun (kept : (List (Int × Int × Int))) => (M.bind (forS (fun (x : (Int × Int)) (st : (List (Int × Int × Int))) => (M.bind (forS (fun (x_1 : (Int × Int)) (st_1 : (List (Int × Int × Int))) => (if (decide (x_1.1 = x.1)) = true then (M.bind (appM st_1 ((x.1, x.2, x_1.2) : (Int × Int × Int))) fun (kept_1 : (List (Int × Int × Int))) => (M.ret kept_1)) else (M.ret st_1))) right st) fun (st_2 : (List (Int × Int × Int))) => (M.ret st_2))) left kept) fun (st_3 : (List (Int × Int × Int))) => (M.ret st_3)))))
theorem rf__law_kept (base : (List Str)) (ours : (List Str)) (theirs : (List Str)) : Ref (RD (eT (eP3 D.int D.int D.int))) (f__law_kept [(eT D.str) base, (eT D.str) ours, (eT D.str) theirs]) (t__law_kept base ours theirs) := by
  unfold f__law_kept t__law_kept
  refine rf_run (G := [some (.fz ((eT D.str) base)), some (.fz ((eT D.str) ours)), some (.fz ((eT D.str) theirs)), none, none, none, none, none]) ?_
  unfold m__law_kept
  exact (asg_m (e := (eT (eP D.int D.int))) (.nil rfl) (te_call (e := (eT (eP D.int D.int))) (rf__law_align base ours) (pvs_cons (pv_var (eT D.str) base rfl) (pvs_cons (pv_var (eT D.str) ours rfl) pvs_nil))) fun (left : (List (Int × Int))) => (asg_m (e := (eT (eP D.int D.int))) (.nil rfl) (te_call (e := (eT (eP D.int D.int))) (rf__law_align base theirs) (pvs_cons (pv_var (eT D.str) base rfl) (pvs_cons (pv_var (eT D.str) theirs rfl) pvs_nil))) fun (right : (List (Int × Int))) => (asgF_m (e := (eL (eP3 D.int D.int D.int))) (.nil rfl) (te_p (pv_lst ([] : (List (Int × Int × Int))) (eL (eP3 D.int D.int D.int)) pvs_nil)) fun (kept : (List (Int × Int × Int))) => (for_p (Gs := fun (st : (List (Int × Int × Int))) => [some (.fz ((eT D.str) base)), some (.fz ((eT D.str) ours)), some (.fz ((eT D.str) theirs)), some (.fz ((eT (eP D.int D.int)) left)), some (.fz ((eT (eP D.int D.int)) right)), some (.ow ((eL (eP3 D.int D.int D.int)) st)), none, none]) kept (pi_T (pv_var (eT (eP D.int D.int)) left rfl)) (.s (.s (.s (.s (.s (.s (.n (.n .nil)))))))) (fun (x : (Int × Int)) (st : (List (Int × Int × Int))) => tg_n) (fun (x : (Int × Int)) (st : (List (Int × Int × Int))) => (ts_last (for_p (Gs := fun (st_1 : (List (Int × Int × Int))) => [some (.fz ((eT D.str) base)), some (.fz ((eT D.str) ours)), some (.fz ((eT D.str) theirs)), some (.fz ((eT (eP D.int D.int)) left)), some (.fz ((eT (eP D.int D.int)) right)), some (.ow ((eL (eP3 D.int D.int D.int)) st_1)), some (.fz ((eP D.int D.int) x)), none]) st (pi_T (pv_var (eT (eP D.int D.int)) right rfl)) (.s (.s (.s (.s (.s (.s (.s (.n .nil)))))))) (fun (x_1 : (Int × Int)) (st_1 : (List (Int × Int × Int))) => tg_n) (fun (x_1 : (Int × Int)) (st_1 : (List (Int × Int × Int))) => (ts_last (if_p (pt_val (pv_op2 (o_eq cm_int _ _) (pv_op2 (by first | rfl | exact ix_P2_0 _) (pv_var (eP D.int D.int) x_1 rfl) (pv_c D.int 0)) (pv_op2 (by first | rfl | exact ix_P2_0 _) (pv_var (eP D.int D.int) x rfl) (pv_c D.int 0)))) (app_p (l := st_1) (e := (eP3 D.int D.int D.int)) (.nil rfl) rfl rfl (pv_tup ((x.1, x.2, x_1.2) : (Int × Int × Int)) (eP3 D.int D.int D.int) (pvs_cons (pv_op2 (by first | rfl | exact ix_P2_0 _) (pv_var (eP D.int D.int) x rfl) (pv_c D.int 0)) (pvs_cons (pv_op2 (by first | rfl | exact ix_P2_1 _) (pv_var (eP D.int D.int) x rfl) (pv_c D.int 1)) (pvs_cons (pv_op2 (by first | rfl | exact ix_P2_1 _) (pv_var (eP D.int D.int) x_1 rfl) (pv_c D.int 1)) pvs_nil)))) fun (kept_1 : (List (Int × Int × Int))) => (end_L kept_1 (.s (.s (.s (.s (.s (.s (.s (.n .nil)))))))))) (ts_skip (end_L st_1 (.s (.s (.s (.s (.s (.s (.s (.n .nil))))))))))))) fun (st_2 : (List (Int × Int × Int))) => (end_L st_2 (.s (.s (.s (.s (.s (.s (.n (.n .nil)))))))))))) fun (st_3 : (List (Int × Int × Int))) => (ts_last (ret_pT (pv_cb st_3 (eT (eP3 D.int D.int D.int)) (pvs_cons (pv_own (eL (eP3 D.int D.int D.int)) st_3 rfl) pvs_nil) rfl)))))))

noncomputable def t__law_parts (base : (List Str)) (ours : (List Str)) (theirs : (List Str)) : M JS (List ((List Str) × (List Str) × (List Str))) :=
  (M.bind (M.ret ([] : (List ((List Str) × (List Str) × (List Str))))) fun (parts : (List ((List Str) × (List Str) × (List Str)))) => (M.bind (M.ret (((-(1 : Int)), (-(1 : Int)), (-(1 : Int))) : (Int × Int × Int))) fun (last : (Int × Int × Int)) => (M.bind (M.bind (M.bind (t__law_kept base ours theirs) fun (a : (List (Int × Int × Int))) => (catM a ([((((List.length base : Nat) : Int), ((List.length ours : Nat) : Int), ((List.length theirs : Nat) : Int)) : (Int × Int × Int))] : (List (Int × Int × Int))))) fun xs => forS (fun (x : (Int × Int × Int)) (st : (List ((List Str) × (List Str) × (List Str))) × (Int × Int × Int)) => (M.bind (M.ret (((cutD base (some (st.2.1 + (1 : Int))) (some x.1)), (cutD ours (some (st.2.2.1 + (1 : Int))) (some x.2.1)), (cutD theirs (some (st.2.2.2 + (1 : Int))) (some x.2.2))) : ((List Str) × (List Str) × (List Str)))) fun (part : ((List Str) × (List Str) × (List Str))) => (M.bind (appM st.1 part) fun (parts_1 : (List ((List Str) × (List Str) × (List Str)))) => (M.bind (M.ret x) fun (last_1 : (Int × Int × Int)) => (M.ret (parts_1, last_1)))))) xs (parts, last)) fun (st_1 : (List ((List Str) × (List Str) × (List Str))) × (Int × Int × Int)) => (M.ret st_1.1))))
theorem rf__law_parts (base : (List Str)) (ours : (List Str)) (theirs : (List Str)) : Ref (RD (eL (eP3 (eT D.str) (eT D.str) (eT D.str)))) (f__law_parts [(eT D.str) base, (eT D.str) ours, (eT D.str) theirs]) (t__law_parts base ours theirs) := by
  unfold f__law_parts t__law_parts
  refine rf_run (G := [some (.fz ((eT D.str) base)), some (.fz ((eT D.str) ours)), some (.fz ((eT D.str) theirs)), none, none, none, none]) ?_
  unfold m__law_parts
  exact (asgF_m (e := (eL (eP3 (eT D.str) (eT D.str) (eT D.str)))) (.nil rfl) (te_p (pv_lst ([] : (List ((List Str) × (List Str) × (List Str)))) (eL (eP3 (eT D.str) (eT D.str) (eT D.str))) pvs_nil)) fun (parts : (List ((List Str) × (List Str) × (List Str)))) => (asg_m (e := (eP3 D.int D.int D.int)) (.nil rfl) (te_p (pv_tup (((-(1 : Int)), (-(1 : Int)), (-(1 : Int))) : (Int × Int × Int)) (eP3 D.int D.int D.int) (pvs_cons (pv_neg (pv_c D.int 1)) (pvs_cons (pv_neg (pv_c D.int 1)) (pvs_cons (pv_neg (pv_c D.int 1)) pvs_nil))))) fun (last : (Int × Int × Int)) => (for_m (Gs := fun (st : (List ((List Str) × (List Str) × (List Str))) × (Int × Int × Int)) => [some (.fz ((eT D.str) base)), some (.fz ((eT D.str) ours)), some (.fz ((eT D.str) theirs)), some (.ow ((eL (eP3 (eT D.str) (eT D.str) (eT D.str))) st.1)), some (.fz ((eP3 D.int D.int D.int) st.2)), none, none]) (parts, last) (ti_T (te_op2l (e := (eT (eP3 D.int D.int D.int))) (fun _ => rf_catT) (te_call (e := (eT (eP3 D.int D.int D.int))) (rf__law_kept base ours theirs) (pvs_cons (pv_var (eT D.str) base rfl) (pvs_cons (pv_var (eT D.str) ours rfl) (pvs_cons (pv_var (eT D.str) theirs rfl) pvs_nil)))) (pv_tup ([((((List.length base : Nat) : Int), ((List.length ours : Nat) : Int), ((List.length theirs : Nat) : Int)) : (Int × Int × Int))] : (List (Int × Int × Int))) (eT (eP3 D.int D.int D.int)) (pvs_cons (pv_tup ((((List.length base : Nat) : Int), ((List.length ours : Nat) : Int), ((List.length theirs : Nat) : Int)) : (Int × Int × Int)) (eP3 D.int D.int D.int) (pvs_cons (pv_cb ((List.length base : Nat) : Int) D.int (pvs_cons (pv_var (eT D.str) base rfl) pvs_nil) (o_lenT _ _)) (pvs_cons (pv_cb ((List.length ours : Nat) : Int) D.int (pvs_cons (pv_var (eT D.str) ours rfl) pvs_nil) (o_lenT _ _)) (pvs_cons (pv_cb ((List.length theirs : Nat) : Int) D.int (pvs_cons (pv_var (eT D.str) theirs rfl) pvs_nil) (o_lenT _ _)) pvs_nil)))) pvs_nil)))) (.s (.s (.s (.s (.s (.n (.n .nil))))))) (fun (x : (Int × Int × Int)) (st : (List ((List Str) × (List Str) × (List Str))) × (Int × Int × Int)) => tg_n) (fun (x : (Int × Int × Int)) (st : (List ((List Str) × (List Str) × (List Str))) × (Int × Int × Int)) => (asg_m (e := (eP3 (eT D.str) (eT D.str) (eT D.str))) (.nil rfl) (te_p (pv_tup (((cutD base (some (st.2.1 + (1 : Int))) (some x.1)), (cutD ours (some (st.2.2.1 + (1 : Int))) (some x.2.1)), (cutD theirs (some (st.2.2.2 + (1 : Int))) (some x.2.2))) : ((List Str) × (List Str) × (List Str))) (eP3 (eT D.str) (eT D.str) (eT D.str)) (pvs_cons (pv_cut (pv_var (eT D.str) base rfl) (po_some (pv_addI (pv_op2 (by first | rfl | exact ix_P3_0 _) (pv_var (eP3 D.int D.int D.int) st.2 rfl) (pv_c D.int 0)) (pv_c D.int 1))) (po_some (pv_op2 (by first | rfl | exact ix_P3_0 _) (pv_var (eP3 D.int D.int D.int) x rfl) (pv_c D.int 0))) (o_cutT _ _ _ _)) (pvs_cons (pv_cut (pv_var (eT D.str) ours rfl) (po_some (pv_addI (pv_op2 (by first | rfl | exact ix_P3_1 _) (pv_var (eP3 D.int D.int D.int) st.2 rfl) (pv_c D.int 1)) (pv_c D.int 1))) (po_some (pv_op2 (by first | rfl | exact ix_P3_1 _) (pv_var (eP3 D.int D.int D.int) x rfl) (pv_c D.int 1))) (o_cutT _ _ _ _)) (pvs_cons (pv_cut (pv_var (eT D.str) theirs rfl) (po_some (pv_addI (pv_op2 (by first | rfl | exact ix_P3_2 _) (pv_var (eP3 D.int D.int D.int) st.2 rfl) (pv_c D.int 2)) (pv_c D.int 1))) (po_some (pv_op2 (by first | rfl | exact ix_P3_2 _) (pv_var (eP3 D.int D.int D.int) x rfl) (pv_c D.int 2))) (o_cutT _ _ _ _)) pvs_nil))))) fun (part : ((List Str) × (List Str) × (List Str))) => (app_p (l := st.1) (e := (eP3 (eT D.str) (eT D.str) (eT D.str))) (.nil rfl) rfl rfl (pv_var (eP3 (eT D.str) (eT D.str) (eT D.str)) part rfl) fun (parts_1 : (List ((List Str) × (List Str) × (List Str)))) => (ts_last (asg_m (e := (eP3 D.int D.int D.int)) (.nil rfl) (te_p (pv_var (eP3 D.int D.int D.int) x rfl)) fun (last_1 : (Int × Int × Int)) => (end_L (parts_1, last_1) (.s (.s (.s (.s (.s (.n (.n .nil))))))))))))) fun (st_1 : (List ((List Str) × (List Str) × (List Str))) × (Int × Int × Int)) => (ts_last (ret_pT (pv_own (eL (eP3 (eT D.str) (eT D.str) (eT D.str))) st_1.1 rfl))))))

noncomputable def t__law_clash (part : ((List Str) × (List Str) × (List Str))) : M JS Bool :=
  (M.ret ((!decide (part.2.1 = part.1)) && ((!decide (part.2.2 = part.1)) && (!decide (part.2.1 = part.2.2)))))
theorem rf__law_clash (part : ((List Str) × (List Str) × (List Str))) : Ref (RD D.bl) (f__law_clash [(eP3 (eT D.str) (eT D.str) (eT D.str)) part]) (t__law_clash part) := by
  unfold f__law_clash t__law_clash
  refine rf_run (G := [some (.fz ((eP3 (eT D.str) (eT D.str) (eT D.str)) part))]) ?_
  unfold m__law_clash
  exact (ts_last (ret_pT (pv_and (pv_op2 (o_ne (cm_T cm_str) _ _) (pv_op2 (by first | rfl | exact ix_P3_1 _) (pv_var (eP3 (eT D.str) (eT D.str) (eT D.str)) part rfl) (pv_c D.int 1)) (pv_op2 (by first | rfl | exact ix_P3_0 _) (pv_var (eP3 (eT D.str) (eT D.str) (eT D.str)) part rfl) (pv_c D.int 0))) (pv_and (pv_op2 (o_ne (cm_T cm_str) _ _) (pv_op2 (by first | rfl | exact ix_P3_2 _) (pv_var (eP3 (eT D.str) (eT D.str) (eT D.str)) part rfl) (pv_c D.int 2)) (pv_op2 (by first | rfl | exact ix_P3_0 _) (pv_var (eP3 (eT D.str) (eT D.str) (eT D.str)) part rfl) (pv_c D.int 0))) (pv_op2 (o_ne (cm_T cm_str) _ _) (pv_op2 (by first | rfl | exact ix_P3_1 _) (pv_var (eP3 (eT D.str) (eT D.str) (eT D.str)) part rfl) (pv_c D.int 1)) (pv_op2 (by first | rfl | exact ix_P3_2 _) (pv_var (eP3 (eT D.str) (eT D.str) (eT D.str)) part rfl) (pv_c D.int 2)))))))

noncomputable def t__law_chosen (part : ((List Str) × (List Str) × (List Str))) (side : Int) : M JS (List Str) :=
  (if (decide (part.2.1 = part.1)) = true then (M.ret part.2.2) else (if ((decide (part.2.2 = part.1)) || (decide (part.2.1 = part.2.2))) = true then (M.ret part.2.1) else (ixM (pl3 part) side)))
theorem rf__law_chosen (part : ((List Str) × (List Str) × (List Str))) (side : Int) : Ref (RD (eT D.str)) (f__law_chosen [(eP3 (eT D.str) (eT D.str) (eT D.str)) part, D.int side]) (t__law_chosen part side) := by
  unfold f__law_chosen t__law_chosen
  refine rf_run (G := [some (.fz ((eP3 (eT D.str) (eT D.str) (eT D.str)) part)), some (.fz (D.int side))]) ?_
  unfold m__law_chosen
  exact (if_p (pt_val (pv_op2 (o_eq (cm_T cm_str) _ _) (pv_op2 (by first | rfl | exact ix_P3_1 _) (pv_var (eP3 (eT D.str) (eT D.str) (eT D.str)) part rfl) (pv_c D.int 1)) (pv_op2 (by first | rfl | exact ix_P3_0 _) (pv_var (eP3 (eT D.str) (eT D.str) (eT D.str)) part rfl) (pv_c D.int 0)))) (ret_pT (pv_op2 (by first | rfl | exact ix_P3_2 _) (pv_var (eP3 (eT D.str) (eT D.str) (eT D.str)) part rfl) (pv_c D.int 2))) (ts_skip (if_p (pt_or (pt_val (pv_op2 (o_eq (cm_T cm_str) _ _) (pv_op2 (by first | rfl | exact ix_P3_2 _) (pv_var (eP3 (eT D.str) (eT D.str) (eT D.str)) part rfl) (pv_c D.int 2)) (pv_op2 (by first | rfl | exact ix_P3_0 _) (pv_var (eP3 (eT D.str) (eT D.str) (eT D.str)) part rfl) (pv_c D.int 0)))) (pt_val (pv_op2 (o_eq (cm_T cm_str) _ _) (pv_op2 (by first | rfl | exact ix_P3_1 _) (pv_var (eP3 (eT D.str) (eT D.str) (eT D.str)) part rfl) (pv_c D.int 1)) (pv_op2 (by first | rfl | exact ix_P3_2 _) (pv_var (eP3 (eT D.str) (eT D.str) (eT D.str)) part rfl) (pv_c D.int 2))))) (ret_pT (pv_op2 (by first | rfl | exact ix_P3_1 _) (pv_var (eP3 (eT D.str) (eT D.str) (eT D.str)) part rfl) (pv_c D.int 1))) (ts_skip (ts_last (ret_t (te_op2 (e := (eT D.str)) rf_ixT (pv_as (pl3 part) (eT (eT D.str)) (pv_var (eP3 (eT D.str) (eT D.str) (eT D.str)) part rfl)) (pv_var D.int side rfl))))))))

noncomputable def t__law_merged (base : (List Str)) (ours : (List Str)) (theirs : (List Str)) (side : Int) : M JS (List Str) :=
  (M.bind (t__law_kept base ours theirs) fun (kept : (List (Int × Int × Int))) => (M.bind (t__law_parts base ours theirs) fun (parts : (List ((List Str) × (List Str) × (List Str)))) => (M.bind (M.ret ([] : (List Str))) fun (lines : (List Str)) => (M.bind (M.bind (rng1 ((List.length parts : Nat) : Int)) fun xs => forS (fun (x : Int) (st : (List Str)) => (M.bind (M.bind (M.bind (M.bind (ixM parts x) fun a => M.bind (M.bind (M.ret side) fun a => M.bind (M.ret ()) fun r => M.ret (a, r)) fun r => M.ret (a, r)) fun p => t__law_chosen p.1 p.2.1) fun (b : (List Str)) => (catM st b)) fun (lines_1 : (List Str)) => (if (decide (x < ((List.length kept : Nat) : Int))) = true then (M.bind (M.bind (M.bind (M.bind (M.bind (M.bind (ixM kept x) fun (a : (Int × Int × Int)) => M.ret a.1) fun (b : Int) => (ixM base b)) fun a => M.bind (M.ret ()) fun r => M.ret (a, r)) fun p => M.ret ((fun p => ([p.1] : (List Str))) p)) fun (b : (List Str)) => (catM lines_1 b)) fun (lines_2 : (List Str)) => (M.ret lines_2)) else (M.ret lines_1)))) xs lines) fun (st_1 : (List Str)) => (M.ret st_1)))))
theorem rf__law_merged (base : (List Str)) (ours : (List Str)) (theirs : (List Str)) (side : Int) : Ref (RD (eT D.str)) (f__law_merged [(eT D.str) base, (eT D.str) ours, (eT D.str) theirs, D.int side]) (t__law_merged base ours theirs side) := by
  unfold f__law_merged t__law_merged
  refine rf_run (G := [some (.fz ((eT D.str) base)), some (.fz ((eT D.str) ours)), some (.fz ((eT D.str) theirs)), some (.fz (D.int side)), none, none, none, none]) ?_
  unfold m__law_merged
  exact (asg_m (e := (eT (eP3 D.int D.int D.int))) (.nil rfl) (te_call (e := (eT (eP3 D.int D.int D.int))) (rf__law_kept base ours theirs) (pvs_cons (pv_var (eT D.str) base rfl) (pvs_cons (pv_var (eT D.str) ours rfl) (pvs_cons (pv_var (eT D.str) theirs rfl) pvs_nil)))) fun (kept : (List (Int × Int × Int))) => (asg_m (e := (eL (eP3 (eT D.str) (eT D.str) (eT D.str)))) (.nil rfl) (te_call (e := (eL (eP3 (eT D.str) (eT D.str) (eT D.str)))) (rf__law_parts base ours theirs) (pvs_cons (pv_var (eT D.str) base rfl) (pvs_cons (pv_var (eT D.str) ours rfl) (pvs_cons (pv_var (eT D.str) theirs rfl) pvs_nil)))) fun (parts : (List ((List Str) × (List Str) × (List Str)))) => (asg_m (e := (eT D.str)) (.nil rfl) (te_p (pv_tup ([] : (List Str)) (eT D.str) pvs_nil)) fun (lines : (List Str)) => (for_m (Gs := fun (st : (List Str)) => [some (.fz ((eT D.str) base)), some (.fz ((eT D.str) ours)), some (.fz ((eT D.str) theirs)), some (.fz (D.int side)), some (.fz ((eT (eP3 D.int D.int D.int)) kept)), some (.fz ((eL (eP3 (eT D.str) (eT D.str) (eT D.str))) parts)), some (.fz ((eT D.str) st)), none]) lines (ti_rng1p (pvs_cons (pv_cb ((List.length parts : Nat) : Int) D.int (pvs_cons (pv_var (eL (eP3 (eT D.str) (eT D.str) (eT D.str))) parts rfl) pvs_nil) (o_lenL _ _)) pvs_nil)) (.s (.s (.s (.s (.s (.s (.s (.n .nil)))))))) (fun (x : Int) (st : (List Str)) => tg_n) (fun (x : Int) (st : (List Str)) => (asg_m (e := (eT D.str)) (.nil rfl) (te_op2r (e := (eT D.str)) (fun _ => rf_catT) (pv_var (eT D.str) st rfl) (te_callm (e := (eT D.str)) (ta_cons (te_op2 (e := (eP3 (eT D.str) (eT D.str) (eT D.str))) rf_ixL (pv_var (eL (eP3 (eT D.str) (eT D.str) (eT D.str))) parts rfl) (pv_var D.int x rfl)) (ta_cons (te_p (pv_var D.int side rfl)) ta_nil)) (fun p => rf__law_chosen p.1 p.2.1))) fun (lines_1 : (List Str)) => (ts_last (if_p (pt_val (pv_op2 rfl (pv_var D.int x rfl) (pv_cb ((List.length kept : Nat) : Int) D.int (pvs_cons (pv_var (eT (eP3 D.int D.int D.int)) kept rfl) pvs_nil) (o_lenT _ _)))) (asg_m (e := (eT D.str)) (.nil rfl) (te_op2r (e := (eT D.str)) (fun _ => rf_catT) (pv_var (eT D.str) lines_1 rfl) (te_tupm (e := (eT D.str)) (ta_cons (te_op2r (e := D.str) (fun _ => rf_ixT) (pv_var (eT D.str) base rfl) (te_op2l (e := D.int) (fun _ => rf_p (by first | rfl | exact ix_P3_0 _)) (te_op2 (e := (eP3 D.int D.int D.int)) rf_ixT (pv_var (eT (eP3 D.int D.int D.int)) kept rfl) (pv_var D.int x rfl)) (pv_c D.int 0))) ta_nil) (fun p => ([p.1] : (List Str))))) fun (lines_2 : (List Str)) => (end_L lines_2 (.s (.s (.s (.s (.s (.s (.s (.n .nil)))))))))) (ts_skip (end_L lines_1 (.s (.s (.s (.s (.s (.s (.s (.n .nil)))))))))))))) fun (st_1 : (List Str)) => (ts_last (ret_pT (pv_var (eT D.str) st_1 rfl)))))))

noncomputable def t__law_refused (base : (List Str)) (ours : (List Str)) (theirs : (List Str)) : M JS D :=
  (tryM [("BadRow", .two "table" "index"), ("TooMany", .two "what" "limit")] (t_merge_for base ours theirs ("ours" : Str)) M.ret (M.ret ((eP D.str D.int) ((("let" : Str), (0 : Int)) : (Str × Int)))))
theorem rf__law_refused (base : (List Str)) (ours : (List Str)) (theirs : (List Str)) : Ref (RD (id : D → D)) (f__law_refused [(eT D.str) base, (eT D.str) ours, (eT D.str) theirs]) (t__law_refused base ours theirs) := by
  unfold f__law_refused t__law_refused
  refine rf_run (G := [some (.fz ((eT D.str) base)), some (.fz ((eT D.str) ours)), some (.fz ((eT D.str) theirs)), none]) ?_
  unfold m__law_refused
  exact (ts_tryT (e := (eT D.str)) (rf_merge_for base ours theirs ("ours" : Str)) (pvs_cons (pv_var (eT D.str) base rfl) (pvs_cons (pv_var (eT D.str) ours rfl) (pvs_cons (pv_var (eT D.str) theirs rfl) (pvs_cons (pv_c D.str "ours") pvs_nil)))) (ts_last (ret_pT (pv_as ((eP D.str D.int) ((("let" : Str), (0 : Int)) : (Str × Int))) (id : D → D) (pv_tup ((("let" : Str), (0 : Int)) : (Str × Int)) (eP D.str D.int) (pvs_cons (pv_c D.str "let") (pvs_cons (pv_c D.int 0) pvs_nil)))))))

noncomputable def t__law_refused_D (base : D) (ours : D) (theirs : D) : M JS D :=
  (tryM [("BadRow", .two "table" "index"), ("TooMany", .two "what" "limit")] (t_merge_for_D base ours theirs ("ours" : Str)) M.ret (M.ret ((eP D.str D.int) ((("let" : Str), (0 : Int)) : (Str × Int)))))
theorem rf__law_refused_D (base : D) (ours : D) (theirs : D) : Ref (RD (id : D → D)) (f__law_refused [(id : D → D) base, (id : D → D) ours, (id : D → D) theirs]) (t__law_refused_D base ours theirs) := by
  unfold f__law_refused t__law_refused_D
  refine rf_run (G := [some (.fz ((id : D → D) base)), some (.fz ((id : D → D) ours)), some (.fz ((id : D → D) theirs)), none]) ?_
  unfold m__law_refused
  exact (ts_tryT (e := (eT D.str)) (rf_merge_for_D base ours theirs ("ours" : Str)) (pvs_cons (pv_var (id : D → D) base rfl) (pvs_cons (pv_var (id : D → D) ours rfl) (pvs_cons (pv_var (id : D → D) theirs rfl) (pvs_cons (pv_c D.str "ours") pvs_nil)))) (ts_last (ret_pT (pv_as ((eP D.str D.int) ((("let" : Str), (0 : Int)) : (Str × Int))) (id : D → D) (pv_tup ((("let" : Str), (0 : Int)) : (Str × Int)) (eP D.str D.int) (pvs_cons (pv_c D.str "let") (pvs_cons (pv_c D.int 0) pvs_nil)))))))

noncomputable def t_law (A0 A1 : Addr) : M JS Bool :=
  (M.bind (t__law_lines A0 A1 () (8 : Int)) fun (base : (List Str)) => (M.bind (t__law_edit A0 A1 () base) fun (ours : (List Str)) => (M.bind (t__law_edit A0 A1 () base) fun (theirs : (List Str)) => (M.bind (M.bind (M.bind (t__law_take A0 A1 () (3 : Int)) fun (a : Int) => M.ret (decide (a = (2 : Int)))) fun b => if b = true then (M.bind (t__law_lines A0 A1 () (8 : Int)) fun (theirs_1 : (List Str)) => (M.ret theirs_1)) else (M.ret theirs)) fun (st : (List Str)) => (M.bind (t__law_kept base ours st) fun (kept : (List (Int × Int × Int))) => (M.bind (notM (M.bind (M.bind (M.bind (t_kept_lines base ours st) fun a => M.ret ((eT (eP3 D.int D.int D.int)) a)) fun a => M.bind (M.bind (M.ret ((eT (eP3 D.int D.int D.int)) kept)) fun a => M.bind (M.ret ()) fun r => M.ret (a, r)) fun r => M.ret (a, r)) fun p => t__law_same 8 p.1 p.2.1)) fun b => if b = true then (M.ret false) else (M.bind (t_merge_for base ours st ("ours" : Str)) fun (first : (List Str)) => (M.bind (t_merge_for base ours st ("theirs" : Str)) fun (second : (List Str)) => (M.bind (notM (M.bind (M.bind (M.ret ((eT D.str) first)) fun a => M.bind (M.bind (M.bind (t__law_merged base ours st (1 : Int)) fun a => M.ret ((eT D.str) a)) fun a => M.bind (M.ret ()) fun r => M.ret (a, r)) fun r => M.ret (a, r)) fun p => t__law_same 8 p.1 p.2.1)) fun b => if b = true then (M.ret false) else (M.bind (notM (M.bind (M.bind (M.ret ((eT D.str) second)) fun a => M.bind (M.bind (M.bind (t__law_merged base ours st (2 : Int)) fun a => M.ret ((eT D.str) a)) fun a => M.bind (M.ret ()) fun r => M.ret (a, r)) fun r => M.ret (a, r)) fun p => t__law_same 8 p.1 p.2.1)) fun b => if b = true then (M.ret false) else (M.bind (M.bind (t__law_parts base ours st) (lcM (fun (x : ((List Str) × (List Str) × (List Str))) => (t__law_clash x)) (fun (x : ((List Str) × (List Str) × (List Str))) => (M.ret x)))) fun (clashes : (List ((List Str) × (List Str) × (List Str)))) => (M.bind (M.bind (M.bind (lcM (fun (x_1 : ((List Str) × (List Str) × (List Str))) => (M.ret true)) (fun (x_1 : ((List Str) × (List Str) × (List Str))) => (M.ret (((List.length x_1.2.1 : Nat) : Int) - ((List.length x_1.2.2 : Nat) : Int)))) clashes) fun a => M.bind (M.ret ()) fun r => M.ret (a, r)) fun p => M.ret ((p.1 : (List Int)).sum)) fun (shift : Int) => (if (!decide ((((List.length first : Nat) : Int) - ((List.length second : Nat) : Int)) = shift)) = true then (M.ret false) else (M.bind (t_merge base ours st) fun (answer : D) => (M.bind (andM (M.ret (decide (((List.length clashes : Nat) : Int) = (0 : Int)))) (orM (notM (t__law_same 8 ((eT D.str) first) ((eT D.str) second))) (notM (t__law_same 8 answer ((eP D.str (eT D.str)) ((("merged" : Str), first) : (Str × (List Str)))))))) fun b => if b = true then (M.ret false) else (M.bind (andM (M.ret (decide ((0 : Int) < ((List.length clashes : Nat) : Int)))) (M.bind (M.ofO (dIx answer (D.int (0 : Int)))) fun (a : D) => (neD a (D.str ("clash" : Str))))) fun b => if b = true then (M.ret false) else (M.bind (repTM ([("a" : Str)] : (List Str)) (21 : Int)) fun (long : (List Str)) => (M.bind (orM (M.bind (t__law_refused base ours long) fun (a : D) => (neD a ((eP D.str D.int) ((("theirs" : Str), (20 : Int)) : (Str × Int))))) (M.bind (t__law_refused base ours (cutD long none (some (20 : Int)))) fun (a : D) => (neD a ((eP D.str D.int) ((("let" : Str), (0 : Int)) : (Str × Int)))))) fun b => if b = true then (M.ret false) else (M.bind (orM (M.bind (t__law_refused_D ((eT D.str) base) ((eL D.str) ours) ((eT D.str) long)) fun (a : D) => (neD a ((eP D.str D.int) ((("ours" : Str), (-(1 : Int))) : (Str × Int))))) (M.bind (M.bind (M.bind (M.bind (catM (List.map D.str base) (List.map eU ([()] : (List Unit)))) fun a => M.ret ((eT (id : D → D)) a)) fun a => M.bind (M.bind (M.ret (D.int (5 : Int))) fun a => M.bind (M.bind (M.ret (D.int (5 : Int))) fun a => M.bind (M.ret ()) fun r => M.ret (a, r)) fun r => M.ret (a, r)) fun r => M.ret (a, r)) fun p => t__law_refused_D p.1 p.2.1 p.2.2.1) fun (a : D) => (neD a ((eP D.str D.int) ((("base" : Str), ((List.length base : Nat) : Int)) : (Str × Int)))))) fun b => if b = true then (M.ret false) else (M.bind (M.bind (M.bind (M.ret ((eT D.str) base)) fun a => M.bind (M.bind (M.ret ((eT D.str) ours)) fun a => M.bind (M.bind (M.bind (catM (List.map D.str st) (List.map D.int ([(5 : Int)] : (List Int)))) fun a => M.ret ((eT (id : D → D)) a)) fun a => M.bind (M.ret ()) fun r => M.ret (a, r)) fun r => M.ret (a, r)) fun r => M.ret (a, r)) fun p => t__law_refused_D p.1 p.2.1 p.2.2.1) fun (a : D) => (eqD a ((eP D.str D.int) ((("theirs" : Str), ((List.length st : Nat) : Int)) : (Str × Int))))))))))))))))))))))))
theorem rf_law (A0 A1 : Addr) : TS [none, some (.fz (eJ A0 ())), none, none, none, none, none, none, none, none, none, none, none] (m_law A0 A1) (t_law A0 A1) (RT D.bl) := by
  unfold m_law t_law
  exact (asg_m (e := (eT D.str)) (.nil rfl) (te_call (e := (eT D.str)) (rf__law_lines A0 A1 () (8 : Int)) (pvs_cons (pv_var (eJ A0) () rfl) (pvs_cons (pv_c D.int 8) pvs_nil))) fun (base : (List Str)) => (asg_m (e := (eT D.str)) (.nil rfl) (te_call (e := (eT D.str)) (rf__law_edit A0 A1 () base) (pvs_cons (pv_var (eJ A0) () rfl) (pvs_cons (pv_var (eT D.str) base rfl) pvs_nil))) fun (ours : (List Str)) => (asg_m (e := (eT D.str)) (.nil rfl) (te_call (e := (eT D.str)) (rf__law_edit A0 A1 () base) (pvs_cons (pv_var (eJ A0) () rfl) (pvs_cons (pv_var (eT D.str) base rfl) pvs_nil))) fun (theirs : (List Str)) => (ts_cut (Gs := fun (st : (List Str)) => [none, some (.fz ((eJ A0) ())), some (.fz ((eT D.str) base)), some (.fz ((eT D.str) ours)), some (.fz ((eT D.str) st)), none, none, none, none, none, none, none, none]) (ts_last (if_m (tt_val (te_op2l (e := D.bl) (fun _ => rf_p (o_eq cm_int _ _)) (te_call (e := D.int) (rf__law_take A0 A1 () (3 : Int)) (pvs_cons (pv_var (eJ A0) () rfl) (pvs_cons (pv_c D.int 3) pvs_nil))) (pv_c D.int 2))) (asg_m (e := (eT D.str)) (.nil rfl) (te_call (e := (eT D.str)) (rf__law_lines A0 A1 () (8 : Int)) (pvs_cons (pv_var (eJ A0) () rfl) (pvs_cons (pv_c D.int 8) pvs_nil))) fun (theirs_1 : (List Str)) => (end_N theirs_1 (.n (.s (.s (.s (.s (.n (.n (.n (.n (.n (.n (.n (.n .nil))))))))))))))) (ts_skip (end_N theirs (.n (.s (.s (.s (.s (.n (.n (.n (.n (.n (.n (.n (.n .nil))))))))))))))))) fun (st : (List Str)) => (asg_m (e := (eT (eP3 D.int D.int D.int))) (.nil rfl) (te_call (e := (eT (eP3 D.int D.int D.int))) (rf__law_kept base ours st) (pvs_cons (pv_var (eT D.str) base rfl) (pvs_cons (pv_var (eT D.str) ours rfl) (pvs_cons (pv_var (eT D.str) st rfl) pvs_nil)))) fun (kept : (List (Int × Int × Int))) => (ts_wk (G' := [none, some (.fz ((eJ A0) ())), some (.fz ((eT D.str) base)), some (.fz ((eT D.str) ours)), some (.fz ((eT D.str) st)), some (.fz ((eT (eP3 D.int D.int D.int)) kept)), none, none, none, none, none, none, none]) (.n (.s (.s (.s (.s (.s (.n (.n (.n (.n (.n (.n (.n .nil))))))))))))) (if_m (tt_not (tt_val (te_callm (e := D.bl) (ta_cons (te_map (ea := (id : D → D)) (eT (eP3 D.int D.int D.int)) (te_call (e := (eT (eP3 D.int D.int D.int))) (rf_kept_lines base ours st) (pvs_cons (pv_var (eT D.str) base rfl) (pvs_cons (pv_var (eT D.str) ours rfl) (pvs_cons (pv_var (eT D.str) st rfl) pvs_nil))))) (ta_cons (te_p (pv_as ((eT (eP3 D.int D.int D.int)) kept) (id : D → D) (pv_var (eT (eP3 D.int D.int D.int)) kept rfl))) ta_nil)) (fun p => rf__law_same 8 p.1 p.2.1)))) (ret_pT (pv_c D.bl false)) (ts_skip (asg_m (e := (eT D.str)) (.nil rfl) (te_call (e := (eT D.str)) (rf_merge_for base ours st ("ours" : Str)) (pvs_cons (pv_var (eT D.str) base rfl) (pvs_cons (pv_var (eT D.str) ours rfl) (pvs_cons (pv_var (eT D.str) st rfl) (pvs_cons (pv_c D.str "ours") pvs_nil))))) fun (first : (List Str)) => (asg_m (e := (eT D.str)) (.nil rfl) (te_call (e := (eT D.str)) (rf_merge_for base ours st ("theirs" : Str)) (pvs_cons (pv_var (eT D.str) base rfl) (pvs_cons (pv_var (eT D.str) ours rfl) (pvs_cons (pv_var (eT D.str) st rfl) (pvs_cons (pv_c D.str "theirs") pvs_nil))))) fun (second : (List Str)) => (if_m (tt_not (tt_val (te_callm (e := D.bl) (ta_cons (te_p (pv_as ((eT D.str) first) (id : D → D) (pv_var (eT D.str) first rfl))) (ta_cons (te_map (ea := (id : D → D)) (eT D.str) (te_call (e := (eT D.str)) (rf__law_merged base ours st (1 : Int)) (pvs_cons (pv_var (eT D.str) base rfl) (pvs_cons (pv_var (eT D.str) ours rfl) (pvs_cons (pv_var (eT D.str) st rfl) (pvs_cons (pv_c D.int 1) pvs_nil)))))) ta_nil)) (fun p => rf__law_same 8 p.1 p.2.1)))) (ret_pT (pv_c D.bl false)) (ts_skip (if_m (tt_not (tt_val (te_callm (e := D.bl) (ta_cons (te_p (pv_as ((eT D.str) second) (id : D → D) (pv_var (eT D.str) second rfl))) (ta_cons (te_map (ea := (id : D → D)) (eT D.str) (te_call (e := (eT D.str)) (rf__law_merged base ours st (2 : Int)) (pvs_cons (pv_var (eT D.str) base rfl) (pvs_cons (pv_var (eT D.str) ours rfl) (pvs_cons (pv_var (eT D.str) st rfl) (pvs_cons (pv_c D.int 2) pvs_nil)))))) ta_nil)) (fun p => rf__law_same 8 p.1 p.2.1)))) (ret_pT (pv_c D.bl false)) (ts_skip (asgF_m (e := (eL (eP3 (eT D.str) (eT D.str) (eT D.str)))) (.nil rfl) (te_lcm (ti_L (te_call (e := (eL (eP3 (eT D.str) (eT D.str) (eT D.str)))) (rf__law_parts base ours st) (pvs_cons (pv_var (eT D.str) base rfl) (pvs_cons (pv_var (eT D.str) ours rfl) (pvs_cons (pv_var (eT D.str) st rfl) pvs_nil))))) (fun (x : ((List Str) × (List Str) × (List Str))) => tg_n) (fun (x : ((List Str) × (List Str) × (List Str))) => (tt_val (te_call (e := D.bl) (rf__law_clash x) (pvs_cons (pv_var (eP3 (eT D.str) (eT D.str) (eT D.str)) x rfl) pvs_nil)))) (fun (x : ((List Str) × (List Str) × (List Str))) => (te_p (pv_var (eP3 (eT D.str) (eT D.str) (eT D.str)) x rfl)))) fun (clashes : (List ((List Str) × (List Str) × (List Str)))) => (asg_m (e := D.int) (.hard hd_int) (te_cbm (e := D.int) (ta_cons (te_lc (pi_L (pv_own (eL (eP3 (eT D.str) (eT D.str) (eT D.str))) clashes rfl)) (fun (x_1 : ((List Str) × (List Str) × (List Str))) => tg_n) (fun (x_1 : ((List Str) × (List Str) × (List Str))) => (tt_p pt_yes)) (fun (x_1 : ((List Str) × (List Str) × (List Str))) => (te_p (pv_subI (pv_cb ((List.length x_1.2.1 : Nat) : Int) D.int (pvs_cons (pv_op2 (by first | rfl | exact ix_P3_1 _) (pv_var (eP3 (eT D.str) (eT D.str) (eT D.str)) x_1 rfl) (pv_c D.int 1)) pvs_nil) (o_lenT _ _)) (pv_cb ((List.length x_1.2.2 : Nat) : Int) D.int (pvs_cons (pv_op2 (by first | rfl | exact ix_P3_2 _) (pv_var (eP3 (eT D.str) (eT D.str) (eT D.str)) x_1 rfl) (pv_c D.int 2)) pvs_nil) (o_lenT _ _)))))) ta_nil) (fun _ => rf_p (o_sum _))) fun (shift : Int) => (ts_wk (G' := [none, some (.fz ((eJ A0) ())), some (.fz ((eT D.str) base)), some (.fz ((eT D.str) ours)), some (.fz ((eT D.str) st)), some (.fz ((eT (eP3 D.int D.int D.int)) kept)), some (.fz ((eT D.str) first)), some (.fz ((eT D.str) second)), some (.ow ((eL (eP3 (eT D.str) (eT D.str) (eT D.str))) clashes)), some (.fz (D.int shift)), none, none, none]) (.n (.s (.s (.s (.s (.s (.s (.s (.s (.s (.n (.n (.n .nil))))))))))))) (if_p (pt_val (pv_op2 (o_ne cm_int _ _) (pv_subI (pv_cb ((List.length first : Nat) : Int) D.int (pvs_cons (pv_var (eT D.str) first rfl) pvs_nil) (o_lenT _ _)) (pv_cb ((List.length second : Nat) : Int) D.int (pvs_cons (pv_var (eT D.str) second rfl) pvs_nil) (o_lenT _ _))) (pv_var D.int shift rfl))) (ret_pT (pv_c D.bl false)) (ts_skip (asg_m (e := (id : D → D)) (.nil rfl) (te_call (e := (id : D → D)) (rf_merge base ours st) (pvs_cons (pv_var (eT D.str) base rfl) (pvs_cons (pv_var (eT D.str) ours rfl) (pvs_cons (pv_var (eT D.str) st rfl) pvs_nil)))) fun (answer : D) => (if_m (tt_and (tt_p (pt_val (pv_op2 (o_eq cm_int _ _) (pv_cb ((List.length clashes : Nat) : Int) D.int (pvs_cons (pv_own (eL (eP3 (eT D.str) (eT D.str) (eT D.str))) clashes rfl) pvs_nil) (o_lenL _ _)) (pv_c D.int 0)))) (tt_or (tt_not (tt_val (te_call (e := D.bl) (rf__law_same 8 ((eT D.str) first) ((eT D.str) second)) (pvs_cons (pv_as ((eT D.str) first) (id : D → D) (pv_var (eT D.str) first rfl)) (pvs_cons (pv_as ((eT D.str) second) (id : D → D) (pv_var (eT D.str) second rfl)) pvs_nil))))) (tt_not (tt_val (te_call (e := D.bl) (rf__law_same 8 answer ((eP D.str (eT D.str)) ((("merged" : Str), first) : (Str × (List Str))))) (pvs_cons (pv_var (id : D → D) answer rfl) (pvs_cons (pv_as ((eP D.str (eT D.str)) ((("merged" : Str), first) : (Str × (List Str)))) (id : D → D) (pv_tup ((("merged" : Str), first) : (Str × (List Str))) (eP D.str (eT D.str)) (pvs_cons (pv_c D.str "merged") (pvs_cons (pv_var (eT D.str) first rfl) pvs_nil)))) pvs_nil))))))) (ret_pT (pv_c D.bl false)) (ts_skip (if_m (tt_and (tt_p (pt_val (pv_op2 rfl (pv_cb ((List.length clashes : Nat) : Int) D.int (pvs_cons (pv_own (eL (eP3 (eT D.str) (eT D.str) (eT D.str))) clashes rfl) pvs_nil) (o_lenL _ _)) (pv_c D.int 0)))) (tt_val (te_op2l (e := D.bl) (fun _ => rf_neD) (te_op2 (e := (id : D → D)) rf_ixD (pv_var (id : D → D) answer rfl) (pv_c D.int 0)) (pv_as (D.str ("clash" : Str)) (id : D → D) (pv_c D.str "clash"))))) (ret_pT (pv_c D.bl false)) (ts_skip (asg_m (e := (eT D.str)) (.nil rfl) (te_op2 (e := (eT D.str)) rf_repT (pv_tup ([("a" : Str)] : (List Str)) (eT D.str) (pvs_cons (pv_c D.str "a") pvs_nil)) (pv_c D.int 21)) fun (long : (List Str)) => (if_m (tt_or (tt_val (te_op2l (e := D.bl) (fun _ => rf_neD) (te_call (e := (id : D → D)) (rf__law_refused base ours long) (pvs_cons (pv_var (eT D.str) base rfl) (pvs_cons (pv_var (eT D.str) ours rfl) (pvs_cons (pv_var (eT D.str) long rfl) pvs_nil)))) (pv_as ((eP D.str D.int) ((("theirs" : Str), (20 : Int)) : (Str × Int))) (id : D → D) (pv_tup ((("theirs" : Str), (20 : Int)) : (Str × Int)) (eP D.str D.int) (pvs_cons (pv_c D.str "theirs") (pvs_cons (pv_c D.int 20) pvs_nil)))))) (tt_val (te_op2l (e := D.bl) (fun _ => rf_neD) (te_call (e := (id : D → D)) (rf__law_refused base ours (cutD long none (some (20 : Int)))) (pvs_cons (pv_var (eT D.str) base rfl) (pvs_cons (pv_var (eT D.str) ours rfl) (pvs_cons (pv_cut (pv_var (eT D.str) long rfl) po_none (po_some (pv_c D.int 20)) (o_cutT _ _ _ _)) pvs_nil)))) (pv_as ((eP D.str D.int) ((("let" : Str), (0 : Int)) : (Str × Int))) (id : D → D) (pv_tup ((("let" : Str), (0 : Int)) : (Str × Int)) (eP D.str D.int) (pvs_cons (pv_c D.str "let") (pvs_cons (pv_c D.int 0) pvs_nil))))))) (ret_pT (pv_c D.bl false)) (ts_skip (if_m (tt_or (tt_val (te_op2l (e := D.bl) (fun _ => rf_neD) (te_call (e := (id : D → D)) (rf__law_refused_D ((eT D.str) base) ((eL D.str) ours) ((eT D.str) long)) (pvs_cons (pv_as ((eT D.str) base) (id : D → D) (pv_var (eT D.str) base rfl)) (pvs_cons (pv_as ((eL D.str) ours) (id : D → D) (pv_cb ours (eL D.str) (pvs_cons (pv_var (eT D.str) ours rfl) pvs_nil) rfl)) (pvs_cons (pv_as ((eT D.str) long) (id : D → D) (pv_var (eT D.str) long rfl)) pvs_nil)))) (pv_as ((eP D.str D.int) ((("ours" : Str), (-(1 : Int))) : (Str × Int))) (id : D → D) (pv_tup ((("ours" : Str), (-(1 : Int))) : (Str × Int)) (eP D.str D.int) (pvs_cons (pv_c D.str "ours") (pvs_cons (pv_neg (pv_c D.int 1)) pvs_nil)))))) (tt_val (te_op2l (e := D.bl) (fun _ => rf_neD) (te_callm (e := (id : D → D)) (ta_cons (te_map (ea := (id : D → D)) (eT (id : D → D)) (te_op2 (e := (eT (id : D → D))) rf_catT (pv_as (List.map D.str base) (eT (id : D → D)) (pv_var (eT D.str) base rfl) (T_D _ _)) (pv_as (List.map eU ([()] : (List Unit))) (eT (id : D → D)) (pv_tup ([()] : (List Unit)) (eT eU) (pvs_cons (pv_c eU ()) pvs_nil)) (T_D _ _)))) (ta_cons (te_p (pv_as (D.int (5 : Int)) (id : D → D) (pv_c D.int 5))) (ta_cons (te_p (pv_as (D.int (5 : Int)) (id : D → D) (pv_c D.int 5))) ta_nil))) (fun p => rf__law_refused_D p.1 p.2.1 p.2.2.1)) (pv_as ((eP D.str D.int) ((("base" : Str), ((List.length base : Nat) : Int)) : (Str × Int))) (id : D → D) (pv_tup ((("base" : Str), ((List.length base : Nat) : Int)) : (Str × Int)) (eP D.str D.int) (pvs_cons (pv_c D.str "base") (pvs_cons (pv_cb ((List.length base : Nat) : Int) D.int (pvs_cons (pv_var (eT D.str) base rfl) pvs_nil) (o_lenT _ _)) pvs_nil))))))) (ret_pT (pv_c D.bl false)) (ts_skip (ts_last (ret_t (te_op2l (e := D.bl) (fun _ => rf_eqD) (te_callm (e := (id : D → D)) (ta_cons (te_p (pv_as ((eT D.str) base) (id : D → D) (pv_var (eT D.str) base rfl))) (ta_cons (te_p (pv_as ((eT D.str) ours) (id : D → D) (pv_var (eT D.str) ours rfl))) (ta_cons (te_map (ea := (id : D → D)) (eT (id : D → D)) (te_op2 (e := (eT (id : D → D))) rf_catT (pv_as (List.map D.str st) (eT (id : D → D)) (pv_var (eT D.str) st rfl) (T_D _ _)) (pv_as (List.map D.int ([(5 : Int)] : (List Int))) (eT (id : D → D)) (pv_tup ([(5 : Int)] : (List Int)) (eT D.int) (pvs_cons (pv_c D.int 5) pvs_nil)) (T_D _ _)))) ta_nil))) (fun p => rf__law_refused_D p.1 p.2.1 p.2.2.1)) (pv_as ((eP D.str D.int) ((("theirs" : Str), ((List.length st : Nat) : Int)) : (Str × Int))) (id : D → D) (pv_tup ((("theirs" : Str), ((List.length st : Nat) : Int)) : (Str × Int)) (eP D.str D.int) (pvs_cons (pv_c D.str "theirs") (pvs_cons (pv_cb ((List.length st : Nat) : Int) D.int (pvs_cons (pv_var (eT D.str) st rfl) pvs_nil) (o_lenT _ _)) pvs_nil))))))))))))))))))))))))))))))))))))

end HD
namespace HD
open PySem DD
/-! the most pairs of two texts -/
def lcs : List Str → List Str → Nat
  | [], _ => 0
  | _ :: _, [] => 0
  | a :: x, b :: y => if a = b then lcs x y + 1 else max (lcs x (b :: y)) (lcs (a :: x) y)
termination_by x y => x.length + y.length
theorem lcs_nil (y : List Str) : lcs [] y = 0 := by rw [lcs]
theorem lcs_nil2 (x : List Str) : lcs x [] = 0 := by cases x <;> rw [lcs]
theorem lcs_cons (a b : Str) (x y : List Str) : lcs (a :: x) (b :: y) = if a = b then lcs x y + 1 else max (lcs x (b :: y)) (lcs (a :: x) y) := by rw [lcs]
def al : List Str → List Str → Int → Int → List (Int × Int)
  | [], _, _, _ => []
  | _ :: _, [], _, _ => []
  | a :: x, b :: y, i, j => if a = b then (i, j) :: al x y (i + 1) (j + 1) else if lcs (a :: x) y ≤ lcs x (b :: y) then al x (b :: y) (i + 1) j else al (a :: x) y i (j + 1)
termination_by x y => x.length + y.length
theorem al_nil (y : List Str) (i j : Int) : al [] y i j = [] := by rw [al]
theorem al_nil2 (x : List Str) (i j : Int) : al x [] i j = [] := by cases x <;> rw [al]
theorem al_cons (a b : Str) (x y : List Str) (i j : Int) : al (a :: x) (b :: y) i j = if a = b then (i, j) :: al x y (i + 1) (j + 1) else if lcs (a :: x) y ≤ lcs x (b :: y) then al x (b :: y) (i + 1) j else al (a :: x) y i (j + 1) := by rw [al]
theorem al_len (n : Nat) : ∀ (x y : List Str) (i j : Int), x.length + y.length ≤ n → (al x y i j).length = lcs x y := by
  induction n with
  | zero =>
    intro x y i j h
    have : x = [] := List.eq_nil_of_length_eq_zero (by omega)
    subst this
    rw [al_nil, lcs_nil]; rfl
  | succ n ih =>
    intro x y i j h
    cases x with
    | nil => rw [al_nil, lcs_nil]; rfl
    | cons a x =>
      cases y with
      | nil => rw [al_nil2, lcs_nil2]; rfl
      | cons b y =>
        simp only [List.length_cons] at h
        rw [al_cons, lcs_cons]
        by_cases q : a = b
        · rw [if_pos q, if_pos q, List.length_cons, ih x y _ _ (by omega)]
        · rw [if_neg q, if_neg q]
          by_cases z : lcs (a :: x) y ≤ lcs x (b :: y)
          · rw [if_pos z, ih x (b :: y) _ _ (by simp; omega)]; omega
          · rw [if_neg z, ih (a :: x) y _ _ (by simp; omega)]; omega
theorem al_bound (n : Nat) : ∀ (x y : List Str) (i j : Int), x.length + y.length ≤ n → ∀ p ∈ al x y i j, i ≤ p.1 ∧ p.1 < i + x.length ∧ j ≤ p.2 ∧ p.2 < j + y.length := by
  induction n with
  | zero =>
    intro x y i j h p hp
    have : x = [] := List.eq_nil_of_length_eq_zero (by omega)
    subst this
    rw [al_nil] at hp; cases hp
  | succ n ih =>
    intro x y i j h p hp
    cases x with
    | nil => rw [al_nil] at hp; cases hp
    | cons a x =>
      cases y with
      | nil => rw [al_nil2] at hp; cases hp
      | cons b y =>
        simp only [List.length_cons] at h ⊢
        rw [al_cons] at hp
        by_cases q : a = b
        · rw [if_pos q] at hp
          rcases List.mem_cons.mp hp with rfl | hp
          · simp; omega
          · have := ih x y _ _ (by omega) p hp; omega
        · rw [if_neg q] at hp
          by_cases z : lcs (a :: x) y ≤ lcs x (b :: y)
          · rw [if_pos z] at hp
            have := ih x (b :: y) _ _ (by simp; omega) p hp
            simp only [List.length_cons] at this
            omega
          · rw [if_neg z] at hp
            have := ih (a :: x) y _ _ (by simp; omega) p hp
            simp only [List.length_cons] at this
            omega
/-! by common parts -/
theorem lcs_ub (n : Nat) : ∀ (x y z : List Str), x.length + y.length ≤ n → z.Sublist x → z.Sublist y → z.length ≤ lcs x y := by
  induction n with
  | zero =>
    intro x y z h h1 h2
    have := h1.length_le
    omega
  | succ n ih =>
    intro x y z h h1 h2
    cases x with
    | nil => have := h1.length_le; simp at this; simp [this]
    | cons a x =>
      cases y with
      | nil => have := h2.length_le; simp at this; simp [this]
      | cons b y =>
        simp only [List.length_cons] at h
        rw [lcs_cons]
        by_cases q : a = b
        · rw [if_pos q]
          have := ih x y z.tail (by omega) h1.tail h2.tail
          rw [List.length_tail] at this
          omega
        · rw [if_neg q]
          rcases List.sublist_cons_iff.mp h1 with h1' | ⟨r, rfl, h3⟩
          · have := ih x (b :: y) z (by simp; omega) h1' h2; omega
          · rcases List.sublist_cons_iff.mp h2 with h2' | ⟨r', e, _⟩
            · have := ih (a :: x) y _ (by simp; omega) h1 h2'; omega
            · exact (q (List.cons.inj e).1).elim
theorem lcs_ex (n : Nat) : ∀ (x y : List Str), x.length + y.length ≤ n → ∃ z : List Str, z.Sublist x ∧ z.Sublist y ∧ z.length = lcs x y := by
  induction n with
  | zero =>
    intro x y h
    have : x = [] := List.eq_nil_of_length_eq_zero (by omega)
    subst this
    exact ⟨[], List.nil_sublist _, List.nil_sublist _, by rw [lcs_nil]; rfl⟩
  | succ n ih =>
    intro x y h
    cases x with
    | nil => exact ⟨[], List.nil_sublist _, List.nil_sublist _, by rw [lcs_nil]; rfl⟩
    | cons a x =>
      cases y with
      | nil => exact ⟨[], List.nil_sublist _, List.nil_sublist _, by rw [lcs_nil2]; rfl⟩
      | cons b y =>
        simp only [List.length_cons] at h
        rw [lcs_cons]
        by_cases q : a = b
        · rw [if_pos q]
          obtain ⟨z, h1, h2, h3⟩ := ih x y (by omega)
          exact ⟨a :: z, h1.cons₂ a, q ▸ h2.cons₂ a, by rw [List.length_cons, h3]⟩
        · rw [if_neg q]
          obtain ⟨z, h1, h2, h3⟩ := ih x (b :: y) (by simp; omega)
          obtain ⟨w, k1, k2, k3⟩ := ih (a :: x) y (by simp; omega)
          by_cases c : lcs (a :: x) y ≤ lcs x (b :: y)
          · exact ⟨z, h1.cons a, h2, by omega⟩
          · exact ⟨w, k1, k2.cons b, by omega⟩
theorem lcs_rev_le (x y : List Str) : lcs x y ≤ lcs x.reverse y.reverse := by
  obtain ⟨z, h1, h2, h3⟩ := lcs_ex _ x y (Nat.le_refl _)
  have := lcs_ub _ x.reverse y.reverse z.reverse (Nat.le_refl _) (List.reverse_sublist.mpr h1) (List.reverse_sublist.mpr h2)
  rw [List.length_reverse] at this
  omega
theorem lcs_rev (x y : List Str) : lcs x.reverse y.reverse = lcs x y := by
  have h1 := lcs_rev_le x y
  have h2 := lcs_rev_le x.reverse y.reverse
  rw [List.reverse_reverse, List.reverse_reverse] at h2
  omega
theorem lcs_snoc (a b : Str) (x y : List Str) : lcs (x ++ [a]) (y ++ [b]) = if a = b then lcs x y + 1 else max (lcs x (y ++ [b])) (lcs (x ++ [a]) y) := by
  rw [← lcs_rev, List.reverse_append, List.reverse_append, List.reverse_cons, List.reverse_cons, List.reverse_nil, List.nil_append, List.nil_append]
  show lcs (a :: x.reverse) (b :: y.reverse) = _
  rw [lcs_cons, lcs_rev]
  have h1 : lcs x.reverse (b :: y.reverse) = lcs x (y ++ [b]) := by rw [← lcs_rev x, List.reverse_append]; rfl
  have h2 : lcs (a :: x.reverse) y.reverse = lcs (x ++ [a]) y := by rw [← lcs_rev _ y, List.reverse_append]; rfl
  rw [h1, h2]
theorem lcs_pre (x y : List Str) (k j : Nat) {a b : Str} (ha : x[k]? = some a) (hb : y[j]? = some b) : lcs (x.take (k + 1)) (y.take (j + 1)) = if a = b then lcs (x.take k) (y.take j) + 1 else max (lcs (x.take k) (y.take (j + 1))) (lcs (x.take (k + 1)) (y.take j)) := by
  have e1 : x.take (k + 1) = x.take k ++ [a] := by rw [List.take_succ, ha]; rfl
  have e2 : y.take (j + 1) = y.take j ++ [b] := by rw [List.take_succ, hb]; rfl
  rw [e1, e2, lcs_snoc]
theorem lcs_suf (x y : List Str) (i j : Nat) {a b : Str} (ha : x[i]? = some a) (hb : y[j]? = some b) : lcs (x.drop i) (y.drop j) = if a = b then lcs (x.drop (i + 1)) (y.drop (j + 1)) + 1 else max (lcs (x.drop (i + 1)) (y.drop j)) (lcs (x.drop i) (y.drop (j + 1))) := by
  obtain ⟨h1, e1⟩ := List.getElem?_eq_some_iff.mp ha
  obtain ⟨h2, e2⟩ := List.getElem?_eq_some_iff.mp hb
  have d1 : x.drop i = a :: x.drop (i + 1) := by rw [List.drop_eq_getElem_cons h1, e1]
  have d2 : y.drop j = b :: y.drop (j + 1) := by rw [List.drop_eq_getElem_cons h2, e2]
  rw [d1, d2, lcs_cons]
end HD
namespace HD
open PySem DD
abbrev JT := JS × TT2
/-! a table by a function of its places -/
def tabF (n m : Nat) (f : Nat → Nat → Int) : TT2 := (List.range (n + 1)).map fun r => (List.range (m + 1)).map (f r)
theorem tabF_row {n m : Nat} {f : Nat → Nat → Int} {i : Nat} (h : i ≤ n) : (tabF n m f)[i]? = some ((List.range (m + 1)).map (f i)) := by
  unfold tabF
  rw [List.getElem?_map, List.getElem?_range (by omega)]
  rfl
theorem rowF_at {m : Nat} {g : Nat → Int} {j : Nat} (h : j ≤ m) : ((List.range (m + 1)).map g)[j]? = some (g j) := by
  rw [List.getElem?_map, List.getElem?_range (by omega)]
  rfl
theorem ixN_nat {n k : Nat} (h : k < n) : L2.ixN n (k : Int) = some k := by
  unfold L2.ixN
  rw [if_pos (by omega), if_pos (by omega)]
  simp
theorem atI_nat {α : Type} {l : List α} {k : Nat} {x : α} (h : l[k]? = some x) : L2.atI l (k : Int) = some x := by
  have hk := (List.getElem?_eq_some_iff.mp h).1
  unfold L2.atI
  rw [ixN_nat hk]
  exact h
theorem tabF_congr {n m : Nat} {f g : Nat → Nat → Int} (h : ∀ r c, r ≤ n → c ≤ m → f r c = g r c) : tabF n m f = tabF n m g := by
  unfold tabF
  apply List.map_congr_left
  intro r hr
  apply List.map_congr_left
  intro c hc
  exact h r c (by have := List.mem_range.mp hr; omega) (by have := List.mem_range.mp hc; omega)
section
variable {n m : Nat} {s : JS}
theorem get_tab {f : Nat → Nat → Int} {i j : Nat} (hi : i ≤ n) (hj : j ≤ m) : (tabG (i : Int) (j : Int) : M JT Int) (s, tabF n m f) = .ok (f i j) (s, tabF n m f) := by
  unfold tabG
  have h1 : L2.atI (tabF n m f) (i : Int) = some ((List.range (m + 1)).map (f i)) := atI_nat (tabF_row hi)
  have h2 : L2.atI ((List.range (m + 1)).map (f i)) (j : Int) = some (f i j) := atI_nat (rowF_at hj)
  dsimp only
  rw [h1]
  dsimp only
  rw [h2]
def updF (f : Nat → Nat → Int) (i j : Nat) (c : Int) : Nat → Nat → Int := fun r k => if r = i ∧ k = j then c else f r k
theorem put_tab {f : Nat → Nat → Int} {i j : Nat} {c : Int} (hi : i ≤ n) (hj : j ≤ m) : (tabP (i : Int) (j : Int) c : M JT Unit) (s, tabF n m f) = .ok () (s, tabF n m (updF f i j c)) := by
  unfold tabP
  have l1 : (tabF n m f).length = n + 1 := by unfold tabF; simp
  have h1 : L2.ixN (tabF n m f).length (i : Int) = some i := ixN_nat (by rw [l1]; omega)
  have h2 : L2.ixN ((List.range (m + 1)).map (f i)).length (j : Int) = some j := ixN_nat (by simp; omega)
  dsimp only
  rw [h1]
  dsimp only
  rw [tabF_row hi]
  dsimp only
  rw [h2]
  dsimp only
  congr 2
  apply List.ext_getElem?
  intro r
  by_cases hr : r ≤ n
  · rw [tabF_row hr]
    by_cases e : i = r
    · subst e
      rw [List.getElem?_set_self (by rw [l1]; omega)]
      congr 1
      apply List.ext_getElem?
      intro k
      by_cases hk : k ≤ m
      · rw [rowF_at hk]
        by_cases e2 : j = k
        · subst e2
          rw [List.getElem?_set_self (by simp; omega)]
          unfold updF
          rw [if_pos ⟨rfl, rfl⟩]
        · rw [List.getElem?_set_ne e2, rowF_at hk]
          unfold updF
          rw [if_neg fun z => e2 z.2.symm]
      · rw [List.getElem?_eq_none (by simp; omega), List.getElem?_eq_none (by simp; omega)]
    · rw [List.getElem?_set_ne e, tabF_row hr]
      congr 1
      apply List.map_congr_left
      intro k _
      unfold updF
      rw [if_neg fun z => e z.1.symm]
  · rw [List.getElem?_eq_none (by rw [List.length_set, l1]; omega), List.getElem?_eq_none (by unfold tabF; simp; omega)]
end
theorem forS_run {S α : Type} {F : α → Unit → M S Unit} (st : Nat → S) : ∀ (xs : List α) (k0 : Nat), (∀ (k : Nat) x, xs[k]? = some x → F x () (st (k0 + k)) = .ok () (st (k0 + k + 1))) → forS F xs () (st k0) = .ok () (st (k0 + xs.length))
  | [], k0, _ => rfl
  | x :: xs, k0, h => by
    have h0 := h 0 x rfl
    rw [Nat.add_zero] at h0
    rw [forS_cons, bnd_ok h0, forS_run st xs (k0 + 1) fun k y hy => by
      have := h (k + 1) y (by simpa using hy)
      rw [show k0 + 1 + k = k0 + (k + 1) by omega]
      exact this]
    rw [List.length_cons, show k0 + 1 + xs.length = k0 + (xs.length + 1) by omega]
/-! the most pairs, place by place -/
section
variable (one two : List Str)
def gl (i j : Nat) : Int := ((lcs (one.drop i) (two.drop j) : Nat) : Int)
def fP (i j : Nat) : Nat → Nat → Int := fun r c => if i < r ∨ (r = i ∧ j ≤ c) then gl one two r c else 0
theorem gl_end (r : Nat) : gl one two r two.length = 0 := by unfold gl; rw [List.drop_length, lcs_nil2]; rfl
theorem gl_end2 (c : Nat) : gl one two one.length c = 0 := by unfold gl; rw [List.drop_length, lcs_nil]; rfl
def tbl (i j : Nat) : TT2 := tabF one.length two.length (fP one two i j)
theorem tbl_row (i : Nat) (hi : i + 1 ≤ one.length) : tbl one two (i + 1) 0 = tbl one two i two.length := by
  unfold tbl
  apply tabF_congr
  intro r c hr hc
  unfold fP
  by_cases h : i + 1 < r ∨ (r = i + 1 ∧ 0 ≤ c)
  · rw [if_pos h, if_pos (by omega)]
  · rw [if_neg h]
    by_cases h2 : i < r ∨ (r = i ∧ two.length ≤ c)
    · rw [if_pos h2]
      have : c = two.length := by omega
      subst this
      rw [gl_end]
    · rw [if_neg h2]
theorem tbl_zero : tbl one two one.length 0 = tabF one.length two.length fun _ _ => 0 := by
  unfold tbl
  apply tabF_congr
  intro r c hr hc
  unfold fP
  split
  · have : r = one.length := by omega
    subst this
    exact gl_end2 one two c
  · rfl
variable {one two}
/-- one place is reckoned -/
theorem place {i j : Nat} (hi : i < one.length) (hj : j < two.length) {s : JS} {I J : Int} (eI : I = (i : Int)) (eJ : J = (j : Int)) {p : M JT Int} (hp : ∀ f, p (s, tabF one.length two.length f) = .ok (f (i + 1) (j + 1) + 1) (s, tabF one.length two.length f)) :
    (M.bind (M.bind (ixM one I) fun (a : Str) => M.bind (ixM two J) fun (b : Str) => M.ret (decide (a = b))) fun b => if b = true then (M.bind (M.bind p fun (c : Int) => tabP I J c) fun _ => (M.ret () : M JT Unit)) else (M.bind (M.bind (M.bind (M.bind (tabG (I + (1 : Int)) J) fun a => M.bind (M.bind (tabG I (J + (1 : Int))) fun a => M.bind (M.ret ()) fun r => M.ret (a, r)) fun r => M.ret (a, r)) fun p => M.ret (if (p.2.1 : Int) > (p.1 : Int) then (p.2.1 : Int) else (p.1 : Int))) fun (c : Int) => tabP I J c) fun _ => (M.ret () : M JT Unit)))
      (s, tbl one two i (j + 1)) = .ok () (s, tbl one two i j) := by
  subst eI eJ
  have h1 : one[i]? = some one[i] := List.getElem?_eq_getElem hi
  have h2 : two[j]? = some two[j] := List.getElem?_eq_getElem hj
  have e1 : (ixM one (i : Int) : M JT Str) = M.ret one[i] := ixM_eq h1
  have e2 : (ixM two (j : Int) : M JT Str) = M.ret two[j] := ixM_eq h2
  have suf := lcs_suf one two i j h1 h2
  have upd : updF (fP one two i (j + 1)) i j (gl one two i j) = fP one two i j := by
    funext r c
    unfold updF fP
    by_cases e : r = i ∧ c = j
    · rw [if_pos e, if_pos (by omega), e.1, e.2]
    · rw [if_neg e]
      by_cases h : i < r ∨ (r = i ∧ j + 1 ≤ c)
      · rw [if_pos h, if_pos (by omega)]
      · rw [if_neg h, if_neg (by omega)]
  have v1 : fP one two i (j + 1) (i + 1) (j + 1) = gl one two (i + 1) (j + 1) := if_pos (by omega)
  have v2 : fP one two i (j + 1) (i + 1) j = gl one two (i + 1) j := if_pos (by omega)
  have v3 : fP one two i (j + 1) i (j + 1) = gl one two i (j + 1) := if_pos (by omega)
  rw [e1, q_bind_ret, e2, q_bind_ret, q_bind_ret]
  unfold tbl
  by_cases q : one[i] = two[j]
  · rw [decide_eq_true q, if_pos rfl, if_pos q] at *
    rw [M.bind_assoc, bnd_ok (hp _), v1]
    have : gl one two (i + 1) (j + 1) + 1 = gl one two i j := by unfold gl; omega
    rw [this, bnd_ok (put_tab (by omega) (by omega)), upd]
    rfl
  · rw [decide_eq_false q, if_neg (by decide)]
    rw [if_neg q] at suf
    have g1 : (tabG ((i : Int) + 1) (j : Int) : M JT Int) (s, tabF one.length two.length (fP one two i (j + 1))) = .ok (gl one two (i + 1) j) (s, tabF one.length two.length (fP one two i (j + 1))) := by
      have := get_tab (s := s) (n := one.length) (m := two.length) (f := fP one two i (j + 1)) (i := i + 1) (j := j) (by omega) (by omega)
      rw [v2] at this
      exact this
    have g2 : (tabG (i : Int) ((j : Int) + 1) : M JT Int) (s, tabF one.length two.length (fP one two i (j + 1))) = .ok (gl one two i (j + 1)) (s, tabF one.length two.length (fP one two i (j + 1))) := by
      have := get_tab (s := s) (n := one.length) (m := two.length) (f := fP one two i (j + 1)) (i := i) (j := j + 1) (by omega) (by omega)
      rw [v3] at this
      exact this
    rw [M.bind_assoc, M.bind_assoc, M.bind_assoc, bnd_ok g1, M.bind_assoc, M.bind_assoc, bnd_ok g2]
    have : (if gl one two i (j + 1) > gl one two (i + 1) j then gl one two i (j + 1) else gl one two (i + 1) j) = gl one two i j := by
      unfold gl
      split <;> omega
    show M.bind (tabP (i : Int) (j : Int) (if gl one two i (j + 1) > gl one two (i + 1) j then gl one two i (j + 1) else gl one two (i + 1) j)) (fun _ => M.ret ()) _ = _
    rw [this, bnd_ok (put_tab (by omega) (by omega)), upd]
    rfl
variable (h1 : one.length ≤ 1000) (h2 : two.length ≤ 1000)
include h1 h2
theorem t_zero : (M.bind (DD.noex (rng1 (((List.length one : Nat) : Int) + (1 : Int)))) fun xs => lcM (fun _ => M.ret true) (fun (x : Int) => (repM ([(0 : Int)] : (List Int)) (((List.length two : Nat) : Int) + (1 : Int)) : M JS (List Int))) xs) = M.ret (tbl one two one.length 0) := by
  have e1 : (rng1 (((List.length one : Nat) : Int) + (1 : Int)) : M JS _) = M.ret (rngL 0 (one.length + 1)) := rng1_eq (n := one.length + 1) (by omega)
  have e2 : (repM ([(0 : Int)] : (List Int)) (((List.length two : Nat) : Int) + (1 : Int)) : M JS (List Int)) = M.ret ((List.range (two.length + 1)).map fun _ => (0 : Int)) := by
    unfold repM
    rw [if_pos ⟨by omega, by omega, by decide⟩]
    congr 1
    have : (((List.length two : Nat) : Int) + 1).toNat = two.length + 1 := by omega
    rw [this]
    simp [List.flatten_replicate_singleton, List.map_const']
  rw [e1, q_noex_ret, q_bind_ret, lcM_map (fun _ => (List.range (two.length + 1)).map fun _ => (0 : Int)) (by rw [rngL_length]; omega) fun _ _ => e2, tbl_zero]
  congr 1
  unfold tabF rngL
  rw [List.map_map]
  rfl
theorem tabX_eq {t : M JT Unit} {t0 t1 : TT2} {s : JS} (h : t (s, t0) = .ok () (s, t1)) : tabX t t0 s = M.ret t1 s := by
  unfold tabX
  rw [h]
  rfl
theorem loop_in (s : JS) (i : Nat) {α : Type} (xs : List α) (hl : xs.length = two.length) (F : α → Unit → M JT Unit) (hF : ∀ (j : Nat) x, xs[j]? = some x → F x () (s, tbl one two i (two.length - j)) = .ok () (s, tbl one two i (two.length - (j + 1)))) : forS F xs () (s, tbl one two i two.length) = .ok () (s, tbl one two i 0) := by
  have := forS_run (fun k => (s, tbl one two i (two.length - k))) xs 0 (F := F) fun k x hx => by
    rw [Nat.zero_add]
    exact hF k x hx
  rw [hl, Nat.zero_add, Nat.sub_self, Nat.sub_zero] at this
  exact this
theorem loop_out (s : JS) {α : Type} (xs : List α) (hl : xs.length = one.length) (F : α → Unit → M JT Unit) (hF : ∀ (k : Nat) x, xs[k]? = some x → F x () (s, tbl one two (one.length - k) 0) = .ok () (s, tbl one two (one.length - (k + 1)) 0)) : forS F xs () (s, tbl one two one.length 0) = .ok () (s, tbl one two 0 0) := by
  have := forS_run (fun k => (s, tbl one two (one.length - k) 0)) xs 0 (F := F) fun k x hx => by
    rw [Nat.zero_add]
    exact hF k x hx
  rw [hl, Nat.zero_add, Nat.sub_self, Nat.sub_zero] at this
  exact this
theorem t_table : t__law_table one two = M.ret (tbl one two 0 0) := by
  unfold t__law_table
  have z := t_zero h1 h2
  rw [← M.bind_assoc, z, q_bind_ret]
  funext s
  have r1 : (rng1 ((List.length one : Nat) : Int) : M JT _) = M.ret (rngL 0 one.length) := rng1_eq (by omega)
  have r2 : (rng1 ((List.length two : Nat) : Int) : M JT _) = M.ret (rngL 0 two.length) := rng1_eq (by omega)
  rw [r1, q_bind_ret, r2]
  refine tabX_eq h1 h2 ?_
  rw [bnd_ok (loop_out h1 h2 s (rngL 0 one.length) rngL_length _ fun k x hx => ?_)]
  · rfl
  obtain ⟨hk, rfl⟩ := rngL_get hx
  rw [q_bind_ret, q_bind_ret]
  have hI : ((one.length : Nat) : Int) - 1 - (0 + (k : Int)) = ((one.length - (k + 1) : Nat) : Int) := by omega
  have row := tbl_row one two (one.length - (k + 1)) (by omega)
  rw [show one.length - (k + 1) + 1 = one.length - k by omega] at row
  rw [row, bnd_ok (loop_in h1 h2 s (one.length - (k + 1)) (rngL 0 two.length) rngL_length _ fun j x hx => ?_)]
  · rfl
  · obtain ⟨hj, rfl⟩ := rngL_get hx
    rw [q_bind_ret]
    have := place (one := one) (two := two) (i := one.length - (k + 1)) (j := two.length - (j + 1)) (by omega) (by omega) (s := s) (I := ((one.length : Nat) : Int) - 1 - (0 + (k : Int))) (J := ((two.length : Nat) : Int) - 1 - (0 + (j : Int))) hI (by omega)
      (p := (M.bind (tabG (((one.length : Nat) : Int) - 1 - (0 + (k : Int)) + (1 : Int)) (((two.length : Nat) : Int) - 1 - (0 + (j : Int)) + (1 : Int))) fun (b : Int) => M.ret ((1 : Int) + b))) fun f => by
        have g := get_tab (s := s) (n := one.length) (m := two.length) (f := f) (i := one.length - (k + 1) + 1) (j := two.length - (j + 1) + 1) (by omega) (by omega)
        rw [show ((one.length : Nat) : Int) - 1 - (0 + (k : Int)) + 1 = ((one.length - (k + 1) + 1 : Nat) : Int) by omega, show ((two.length : Nat) : Int) - 1 - (0 + (j : Int)) + 1 = ((two.length - (j + 1) + 1 : Nat) : Int) by omega, bnd_ok g]
        show Out.ok _ _ = _
        rw [Int.add_comm]
    rw [show two.length - (j + 1) + 1 = two.length - j by omega] at this
    exact this
omit h1 h2 in
theorem dnL_get {lo : Int} {n i : Nat} {x : Int} (h : (dnL lo n)[i]? = some x) : i < n ∧ x = lo - (i : Nat) := by
  unfold dnL at h
  rw [List.getElem?_map] at h
  obtain ⟨k, hk, rfl⟩ := Option.map_eq_some_iff.mp h
  obtain ⟨a, b⟩ := List.getElem?_eq_some_iff.mp hk
  simp at a b
  subst b
  exact ⟨a, rfl⟩
omit h1 h2 in
theorem dnL_length {lo : Int} {n : Nat} : (dnL lo n).length = n := by unfold dnL; simp
omit h1 h2 in
theorem rng3_eq {S : Type} {n : Nat} (h : n ≤ 1000) : (rng3 ((n : Int) - 1) (-1) : M S _) = M.ret (dnL ((n : Int) - 1) n) := by
  unfold rng3
  rw [if_pos (by omega), show (((n : Int) - 1) - (-1)).toNat = n by omega]
theorem t_most : t_most_pairs one two = M.ret (tbl one two 0 0) := by
  unfold t_most_pairs
  have z := t_zero h1 h2
  rw [← M.bind_assoc, z, q_bind_ret]
  funext s
  have r1 : (rng3 (((List.length one : Nat) : Int) - 1) (-1) : M JT _) = M.ret (dnL (((List.length one : Nat) : Int) - 1) one.length) := rng3_eq h1
  have r2 : (rng3 (((List.length two : Nat) : Int) - 1) (-1) : M JT _) = M.ret (dnL (((List.length two : Nat) : Int) - 1) two.length) := rng3_eq h2
  rw [r1, q_bind_ret, r2]
  refine tabX_eq h1 h2 ?_
  rw [bnd_ok (loop_out h1 h2 s _ dnL_length _ fun k x hx => ?_)]
  · rfl
  obtain ⟨hk, rfl⟩ := dnL_get hx
  rw [q_bind_ret]
  have hI : ((one.length : Nat) : Int) - 1 - (k : Int) = ((one.length - (k + 1) : Nat) : Int) := by omega
  have row := tbl_row one two (one.length - (k + 1)) (by omega)
  rw [show one.length - (k + 1) + 1 = one.length - k by omega] at row
  rw [row, bnd_ok (loop_in h1 h2 s (one.length - (k + 1)) (dnL (((List.length two : Nat) : Int) - 1) two.length) dnL_length _ fun j x hx => ?_)]
  · rfl
  · obtain ⟨hj, rfl⟩ := dnL_get hx
    have := place (one := one) (two := two) (i := one.length - (k + 1)) (j := two.length - (j + 1)) (by omega) (by omega) (s := s) (I := ((one.length : Nat) : Int) - 1 - (k : Int)) (J := ((two.length : Nat) : Int) - 1 - (j : Int)) hI (by omega)
      (p := (M.bind (tabG (((one.length : Nat) : Int) - 1 - (k : Int) + (1 : Int)) (((two.length : Nat) : Int) - 1 - (j : Int) + (1 : Int))) fun (a : Int) => M.ret (a + (1 : Int)))) fun f => by
        have g := get_tab (s := s) (n := one.length) (m := two.length) (f := f) (i := one.length - (k + 1) + 1) (j := two.length - (j + 1) + 1) (by omega) (by omega)
        rw [show ((one.length : Nat) : Int) - 1 - (k : Int) + 1 = ((one.length - (k + 1) + 1 : Nat) : Int) by omega, show ((two.length : Nat) : Int) - 1 - (j : Int) + 1 = ((two.length - (j + 1) + 1 : Nat) : Int) by omega, bnd_ok g]
        rfl
    rw [show two.length - (j + 1) + 1 = two.length - j by omega] at this
    exact this
/-! the alignment, by the table -/
omit h1 h2 in
theorem tbl_at {i j : Nat} (hi : i ≤ one.length) (hj : j ≤ two.length) : (M.bind (ixM (tbl one two 0 0) (i : Int)) fun (a : List Int) => (ixM a (j : Int) : M JS Int)) = M.ret (gl one two i j) := by
  unfold tbl
  rw [ixM_eq (tabF_row hi), q_bind_ret, ixM_eq (rowF_at hj)]
  congr 1
  unfold fP
  rw [if_pos (by omega)]
/-- one step of the way through the table -/
def stepA (one two : List Str) (st : List (Int × Int) × Nat × Nat) : List (Int × Int) × Nat × Nat := match one[st.2.1]?, two[st.2.2]? with
  | some a, some b => if a = b then (st.1 ++ [((st.2.1 : Int), (st.2.2 : Int))], st.2.1 + 1, st.2.2 + 1) else if lcs (one.drop st.2.1) (two.drop (st.2.2 + 1)) ≤ lcs (one.drop (st.2.1 + 1)) (two.drop st.2.2) then (st.1, st.2.1 + 1, st.2.2) else (st.1, st.2.1, st.2.2 + 1)
  | _, _ => st
def goA (one two : List Str) : Nat → List (Int × Int) × Nat × Nat → List (Int × Int) × Nat × Nat
  | 0, st => st
  | k + 1, st => goA one two k (stepA one two st)
omit h1 h2 in
theorem goA_al : ∀ (k : Nat) (ps : List (Int × Int)) (i j : Nat), i ≤ one.length → j ≤ two.length → (one.length - i) + (two.length - j) ≤ k → (goA one two k (ps, i, j)).1 = ps ++ al (one.drop i) (two.drop j) (i : Int) (j : Int)
  | 0, ps, i, j, hi, hj, h => by
    have : one.drop i = [] := List.drop_eq_nil_of_le (by omega)
    rw [this, al_nil, List.append_nil]
    rfl
  | k + 1, ps, i, j, hi, hj, h => by
    show (goA one two k (stepA one two (ps, i, j))).1 = _
    by_cases c1 : i < one.length
    · by_cases c2 : j < two.length
      · have e1 : one[i]? = some one[i] := List.getElem?_eq_getElem c1
        have e2 : two[j]? = some two[j] := List.getElem?_eq_getElem c2
        have d1 : one.drop i = one[i] :: one.drop (i + 1) := List.drop_eq_getElem_cons c1
        have d2 : two.drop j = two[j] :: two.drop (j + 1) := List.drop_eq_getElem_cons c2
        have es : stepA one two (ps, i, j) = if one[i] = two[j] then (ps ++ [((i : Int), (j : Int))], i + 1, j + 1) else if lcs (one.drop i) (two.drop (j + 1)) ≤ lcs (one.drop (i + 1)) (two.drop j) then (ps, i + 1, j) else (ps, i, j + 1) := by
          unfold stepA
          dsimp only
          rw [e1, e2]
        rw [es, d1, d2, al_cons, ← d1, ← d2]
        by_cases q : one[i] = two[j]
        · rw [if_pos q, if_pos q, goA_al k _ (i + 1) (j + 1) (by omega) (by omega) (by omega)]
          simp
        · rw [if_neg q, if_neg q]
          by_cases z : lcs (one.drop i) (two.drop (j + 1)) ≤ lcs (one.drop (i + 1)) (two.drop j)
          · rw [if_pos z, if_pos z, goA_al k _ (i + 1) j (by omega) hj (by omega)]
            simp
          · rw [if_neg z, if_neg z, goA_al k _ i (j + 1) hi (by omega) (by omega)]
            simp
      · have e2 : two[j]? = none := List.getElem?_eq_none (by omega)
        have es : stepA one two (ps, i, j) = (ps, i, j) := by unfold stepA; dsimp only; rw [e2]; cases one[i]? <;> rfl
        have d2 : two.drop j = [] := List.drop_eq_nil_of_le (by omega)
        have aux : ∀ k, goA one two k (ps, i, j) = (ps, i, j) := by
          intro k
          induction k with
          | zero => rfl
          | succ k ih => show goA one two k (stepA one two (ps, i, j)) = _; rw [es, ih]
        rw [es, aux, d2, al_nil2, List.append_nil]
    · have e1 : one[i]? = none := List.getElem?_eq_none (by omega)
      have es : stepA one two (ps, i, j) = (ps, i, j) := by unfold stepA; dsimp only; rw [e1]
      have d1 : one.drop i = [] := List.drop_eq_nil_of_le (by omega)
      have aux : ∀ k, goA one two k (ps, i, j) = (ps, i, j) := by
        intro k
        induction k with
        | zero => rfl
        | succ k ih => show goA one two k (stepA one two (ps, i, j)) = _; rw [es, ih]
      rw [es, aux, d1, al_nil, List.append_nil]
omit h1 h2 in
theorem stepA_ok {st : List (Int × Int) × Nat × Nat} (hi : st.2.1 ≤ one.length) (hj : st.2.2 ≤ two.length) : (stepA one two st).2.1 ≤ one.length ∧ (stepA one two st).2.2 ≤ two.length ∧ (stepA one two st).1.length ≤ st.1.length + 1 ∧ (st.2.1 < one.length → st.2.2 < two.length → (one.length - (stepA one two st).2.1) + (two.length - (stepA one two st).2.2) < (one.length - st.2.1) + (two.length - st.2.2)) := by
  obtain ⟨ps, i, j⟩ := st
  unfold stepA
  dsimp only at hi hj ⊢
  cases e1 : one[i]? with
  | none =>
    have : one.length ≤ i := by simpa using e1
    exact ⟨hi, hj, by simp, fun z => by omega⟩
  | some a =>
    cases e2 : two[j]? with
    | none =>
      have : two.length ≤ j := by simpa using e2
      exact ⟨hi, hj, by simp, fun _ z => by omega⟩
    | some b =>
      have c1 := (List.getElem?_eq_some_iff.mp e1).1
      have c2 := (List.getElem?_eq_some_iff.mp e2).1
      dsimp only
      split
      · exact ⟨by dsimp only; omega, by dsimp only; omega, by simp, fun _ _ => by dsimp only; omega⟩
      · split
        · exact ⟨by dsimp only; omega, by dsimp only; omega, by simp, fun _ _ => by dsimp only; omega⟩
        · exact ⟨by dsimp only; omega, by dsimp only; omega, by simp, fun _ _ => by dsimp only; omega⟩
end
end HD
namespace HD
open PySem DD
section
variable {one two : List Str}
/-- what is due from a state on -/
def dueA (one two : List Str) (st : List (Int × Int) × Nat × Nat) : List (Int × Int) := st.1 ++ al (one.drop st.2.1) (two.drop st.2.2) (st.2.1 : Int) (st.2.2 : Int)
def enA (st : List (Int × Int) × Nat × Nat) : List (Int × Int) × Int × Int := (st.1, (st.2.1 : Int), (st.2.2 : Int))
def meas (one two : List Str) (st : List (Int × Int) × Nat × Nat) : Nat := (one.length - st.2.1) + (two.length - st.2.2)
theorem due_go {st : List (Int × Int) × Nat × Nat} (hi : st.2.1 ≤ one.length) (hj : st.2.2 ≤ two.length) {k : Nat} (hk : meas one two st ≤ k) : (goA one two k st).1 = dueA one two st := goA_al k st.1 st.2.1 st.2.2 hi hj hk
theorem due_step {st : List (Int × Int) × Nat × Nat} (hi : st.2.1 < one.length) (hj : st.2.2 < two.length) : dueA one two (stepA one two st) = dueA one two st := by
  obtain ⟨a, b, _, d⟩ := stepA_ok (one := one) (two := two) (st := st) (by omega) (by omega)
  have d := d hi hj
  have m0 : meas one two st = (meas one two st - 1) + 1 := by unfold meas; omega
  rw [← due_go (k := meas one two st) (by omega) (by omega) (Nat.le_refl _), m0]
  show _ = (goA one two (meas one two st - 1) (stepA one two st)).1
  rw [due_go a b (by unfold meas at *; omega)]
theorem due_stop {st : List (Int × Int) × Nat × Nat} (h : one.length ≤ st.2.1 ∨ two.length ≤ st.2.2) : dueA one two st = st.1 := by
  unfold dueA
  rcases h with h | h
  · rw [List.drop_eq_nil_of_le h, al_nil, List.append_nil]
  · rw [List.drop_eq_nil_of_le h, al_nil2, List.append_nil]
theorem tbl_le {i j : Nat} (hi : i < one.length) (hj : j < two.length) : (M.bind (M.bind (ixM (tbl one two 0 0) ((i : Int) + (1 : Int))) fun (a : List Int) => (ixM a (j : Int))) fun (a : Int) => M.bind (M.bind (ixM (tbl one two 0 0) (i : Int)) fun (a : List Int) => (ixM a ((j : Int) + (1 : Int)))) fun (b : Int) => (M.ret (decide (b ≤ a)) : M JS Bool)) =
    M.ret (decide (lcs (one.drop i) (two.drop (j + 1)) ≤ lcs (one.drop (i + 1)) (two.drop j))) := by
  have e1 := tbl_at (one := one) (two := two) (i := i + 1) (j := j) (by omega) (by omega)
  have e2 := tbl_at (one := one) (two := two) (i := i) (j := j + 1) (by omega) (by omega)
  rw [show ((i + 1 : Nat) : Int) = (i : Int) + 1 by omega] at e1
  rw [show ((j + 1 : Nat) : Int) = (j : Int) + 1 by omega] at e2
  rw [e1, q_bind_ret, e2, q_bind_ret]
  congr 1
  unfold gl
  rw [Bool.eq_iff_iff, decide_eq_true_iff, decide_eq_true_iff]
  omega
variable (h1 : one.length ≤ 400) (h2 : two.length ≤ 400)
theorem step_en {st : List (Int × Int) × Nat × Nat} (hi : st.2.1 < one.length) (hj : st.2.2 < two.length) : enA (stepA one two st) = if one[st.2.1] = two[st.2.2] then (st.1 ++ [((st.2.1 : Int), (st.2.2 : Int))], (st.2.1 : Int) + 1, (st.2.2 : Int) + 1) else if lcs (one.drop st.2.1) (two.drop (st.2.2 + 1)) ≤ lcs (one.drop (st.2.1 + 1)) (two.drop st.2.2) then (st.1, (st.2.1 : Int) + 1, (st.2.2 : Int)) else (st.1, (st.2.1 : Int), (st.2.2 : Int) + 1) := by
  unfold stepA enA
  rw [List.getElem?_eq_getElem hi, List.getElem?_eq_getElem hj]
  dsimp only
  split
  · rfl
  · split <;> rfl
include h1 h2
theorem t_pairs : t_pairs_between one two = M.ret (al one two 0 0) := by
  unfold t_pairs_between
  rw [t_most (by omega) (by omega)]
  simp only [q_bind_ret, q_bind_fail, q_bind_exn, q_noex_ret, q_ofO_some, q_ofO_none, andM_t, andM_f, orM_t, orM_f, ite_ret, notM_ret, andM_rr, orM_rr, lpK_inl, lpK_inr, forS_nil, forC_nil, Bool.not_true, Bool.not_false, Bool.true_and, Bool.false_and, Bool.and_true, Bool.and_false, Bool.true_or, Bool.false_or, Bool.or_false, Bool.or_true, Bool.not_not, List.length_map, M.bind_ret, decide_true, decide_false, reduceIte, Bool.false_eq_true, DD.str_inj, String.reduceEq, Option.isSome_some, Option.isSome_none, its_T, asS_S, asI_I, isi_T, isi_T2, isi_S, isi_I, isi_Ib, isi_St, isi_It, isi_Nt, isi_Ns, isi_Is, isi_Si, isi_Bi, isi_Bb, isi_L, lenD_T, lenD_T2, its_T2, ixD_P0, ixD_P1, eqD_S]
  have main : ∀ (t : List (Int × Int) × Int × Int → M JS Bool) (f : List (Int × Int) × Int × Int → M JS (List (Int × Int) × Int × Int)), (∀ st, t st = M.ret (decide (st.2.1 < ((one.length : Nat) : Int)) && decide (st.2.2 < ((two.length : Nat) : Int)))) →
      (∀ st : List (Int × Int) × Nat × Nat, st.2.1 < one.length → st.2.2 < two.length → st.1.length < 16777216 → f (enA st) = M.ret (enA (stepA one two st))) →
      ∀ (fuel : Nat) (st : List (Int × Int) × Nat × Nat), st.2.1 ≤ one.length → st.2.2 ≤ two.length → st.1.length + fuel < 10000 → meas one two st < fuel → ∃ r, whileS t f fuel (enA st) = M.ret r ∧ r.1 = dueA one two st := by
    intro t f ht hf fuel
    induction fuel with
    | zero => intro st _ _ _ h; omega
    | succ fuel ih =>
      intro st hi hj hl hm
      have e0 : t (enA st) = M.ret (decide ((st.2.1 : Int) < ((one.length : Nat) : Int)) && decide ((st.2.2 : Int) < ((two.length : Nat) : Int))) := ht _
      by_cases c : st.2.1 < one.length ∧ st.2.2 < two.length
      · obtain ⟨a, b, l, d⟩ := stepA_ok (one := one) (two := two) (st := st) hi hj
        have d := d c.1 c.2
        rw [while_t (by rw [e0, decide_eq_true (by omega), decide_eq_true (by omega)]; rfl) (hf st c.1 c.2 (by omega)), ← due_step c.1 c.2]
        exact ih _ a b (by omega) (by unfold meas at *; omega)
      · refine ⟨enA st, while_f ?_, ?_⟩
        · rw [e0]
          by_cases c1 : st.2.1 < one.length
          · rw [decide_eq_true (show ((st.2.1 : Nat) : Int) < _ by omega), decide_eq_false (show ¬ ((st.2.2 : Nat) : Int) < _ by omega)]; rfl
          · rw [decide_eq_false (show ¬ ((st.2.1 : Nat) : Int) < _ by omega)]; rfl
        · rw [due_stop (by omega)]; rfl
  have hst : (([], 0, 0) : List (Int × Int) × Int × Int) = enA ([], 0, 0) := rfl
  rw [hst]
  refine bind_to (P := fun r => r.1 = dueA one two ([], 0, 0)) (main _ _ (fun st => rfl) (fun st hi hj hl => ?_) 1000 ([], 0, 0) (Nat.zero_le _) (Nat.zero_le _) (by simp) (by unfold meas; simp; omega)) fun r er => ?_
  rotate_left
  · rw [er]
    unfold dueA
    simp
  · rw [step_en hi hj]
    have g1 : one[st.2.1]? = some one[st.2.1] := List.getElem?_eq_getElem hi
    have g2 : two[st.2.2]? = some two[st.2.2] := List.getElem?_eq_getElem hj
    unfold enA
    have tl := tbl_le hi hj
    simp only [ixM_eq g1, ixM_eq g2, tl, appM_eq hl, q_bind_ret, q_bind_fail, q_bind_exn, q_noex_ret, q_ofO_some, q_ofO_none, andM_t, andM_f, orM_t, orM_f, ite_ret, notM_ret, andM_rr, orM_rr, lpK_inl, lpK_inr, forS_nil, forC_nil, Bool.not_true, Bool.not_false, Bool.true_and, Bool.false_and, Bool.and_true, Bool.and_false, Bool.true_or, Bool.false_or, Bool.or_false, Bool.or_true, Bool.not_not, List.length_map, M.bind_ret, decide_true, decide_false, reduceIte, Bool.false_eq_true, DD.str_inj, String.reduceEq, Option.isSome_some, Option.isSome_none, its_T, asS_S, asI_I, isi_T, isi_T2, isi_S, isi_I, isi_Ib, isi_St, isi_It, isi_Nt, isi_Ns, isi_Is, isi_Si, isi_Bi, isi_Bb, isi_L, lenD_T, lenD_T2, its_T2, ixD_P0, ixD_P1, eqD_S]
    by_cases q : one[st.2.1] = two[st.2.2]
    · simp only [q, decide_true, q_bind_ret, q_bind_fail, q_bind_exn, q_noex_ret, q_ofO_some, q_ofO_none, andM_t, andM_f, orM_t, orM_f, ite_ret, notM_ret, andM_rr, orM_rr, lpK_inl, lpK_inr, forS_nil, forC_nil, Bool.not_true, Bool.not_false, Bool.true_and, Bool.false_and, Bool.and_true, Bool.and_false, Bool.true_or, Bool.false_or, Bool.or_false, Bool.or_true, Bool.not_not, List.length_map, M.bind_ret, decide_true, decide_false, reduceIte, Bool.false_eq_true, DD.str_inj, String.reduceEq, Option.isSome_some, Option.isSome_none, its_T, asS_S, asI_I, isi_T, isi_T2, isi_S, isi_I, isi_Ib, isi_St, isi_It, isi_Nt, isi_Ns, isi_Is, isi_Si, isi_Bi, isi_Bb, isi_L, lenD_T, lenD_T2, its_T2, ixD_P0, ixD_P1, eqD_S]
    · rw [if_neg q]
      simp only [decide_eq_false q, q_bind_ret, q_bind_fail, q_bind_exn, q_noex_ret, q_ofO_some, q_ofO_none, andM_t, andM_f, orM_t, orM_f, ite_ret, notM_ret, andM_rr, orM_rr, lpK_inl, lpK_inr, forS_nil, forC_nil, Bool.not_true, Bool.not_false, Bool.true_and, Bool.false_and, Bool.and_true, Bool.and_false, Bool.true_or, Bool.false_or, Bool.or_false, Bool.or_true, Bool.not_not, List.length_map, M.bind_ret, decide_true, decide_false, reduceIte, Bool.false_eq_true, DD.str_inj, String.reduceEq, Option.isSome_some, Option.isSome_none, its_T, asS_S, asI_I, isi_T, isi_T2, isi_S, isi_I, isi_Ib, isi_St, isi_It, isi_Nt, isi_Ns, isi_Is, isi_Si, isi_Bi, isi_Bb, isi_L, lenD_T, lenD_T2, its_T2, ixD_P0, ixD_P1, eqD_S]
      by_cases z : lcs (one.drop st.2.1) (two.drop (st.2.2 + 1)) ≤ lcs (one.drop (st.2.1 + 1)) (two.drop st.2.2)
      · simp only [decide_eq_true z, if_pos z, q_bind_ret, q_bind_fail, q_bind_exn, q_noex_ret, q_ofO_some, q_ofO_none, andM_t, andM_f, orM_t, orM_f, ite_ret, notM_ret, andM_rr, orM_rr, lpK_inl, lpK_inr, forS_nil, forC_nil, Bool.not_true, Bool.not_false, Bool.true_and, Bool.false_and, Bool.and_true, Bool.and_false, Bool.true_or, Bool.false_or, Bool.or_false, Bool.or_true, Bool.not_not, List.length_map, M.bind_ret, decide_true, decide_false, reduceIte, Bool.false_eq_true, DD.str_inj, String.reduceEq, Option.isSome_some, Option.isSome_none, its_T, asS_S, asI_I, isi_T, isi_T2, isi_S, isi_I, isi_Ib, isi_St, isi_It, isi_Nt, isi_Ns, isi_Is, isi_Si, isi_Bi, isi_Bb, isi_L, lenD_T, lenD_T2, its_T2, ixD_P0, ixD_P1, eqD_S]
      · simp only [decide_eq_false z, if_neg z, q_bind_ret, q_bind_fail, q_bind_exn, q_noex_ret, q_ofO_some, q_ofO_none, andM_t, andM_f, orM_t, orM_f, ite_ret, notM_ret, andM_rr, orM_rr, lpK_inl, lpK_inr, forS_nil, forC_nil, Bool.not_true, Bool.not_false, Bool.true_and, Bool.false_and, Bool.and_true, Bool.and_false, Bool.true_or, Bool.false_or, Bool.or_false, Bool.or_true, Bool.not_not, List.length_map, M.bind_ret, decide_true, decide_false, reduceIte, Bool.false_eq_true, DD.str_inj, String.reduceEq, Option.isSome_some, Option.isSome_none, its_T, asS_S, asI_I, isi_T, isi_T2, isi_S, isi_I, isi_Ib, isi_St, isi_It, isi_Nt, isi_Ns, isi_Is, isi_Si, isi_Bi, isi_Bb, isi_L, lenD_T, lenD_T2, its_T2, ixD_P0, ixD_P1, eqD_S]
theorem go_succ (k : Nat) (st : List (Int × Int) × Nat × Nat) : goA one two (k + 1) st = stepA one two (goA one two k st) := by
  induction k generalizing st with
  | zero => rfl
  | succ k ih => exact ih (stepA one two st)
theorem go_ok (k : Nat) : (goA one two k ([], 0, 0)).2.1 ≤ one.length ∧ (goA one two k ([], 0, 0)).2.2 ≤ two.length ∧ (goA one two k ([], 0, 0)).1.length ≤ k := by
  induction k with
  | zero => exact ⟨Nat.zero_le _, Nat.zero_le _, Nat.le_refl _⟩
  | succ k ih =>
    rw [go_succ h1 h2]
    obtain ⟨a, b, c, _⟩ := stepA_ok ih.1 ih.2.1
    exact ⟨a, b, by omega⟩
theorem t_lalign : t__law_align one two = M.ret (al one two 0 0) := by
  unfold t__law_align
  rw [t_table (by omega) (by omega)]
  have r1 : (rng1 (((List.length one : Nat) : Int) + ((List.length two : Nat) : Int)) : M JS _) = M.ret (rngL 0 (one.length + two.length)) := rng1_eq (n := one.length + two.length) (by omega)
  simp only [r1, q_bind_ret, q_bind_fail, q_bind_exn, q_noex_ret, q_ofO_some, q_ofO_none, andM_t, andM_f, orM_t, orM_f, ite_ret, notM_ret, andM_rr, orM_rr, lpK_inl, lpK_inr, forS_nil, forC_nil, Bool.not_true, Bool.not_false, Bool.true_and, Bool.false_and, Bool.and_true, Bool.and_false, Bool.true_or, Bool.false_or, Bool.or_false, Bool.or_true, Bool.not_not, List.length_map, M.bind_ret, decide_true, decide_false, reduceIte, Bool.false_eq_true, DD.str_inj, String.reduceEq, Option.isSome_some, Option.isSome_none, its_T, asS_S, asI_I, isi_T, isi_T2, isi_S, isi_I, isi_Ib, isi_St, isi_It, isi_Nt, isi_Ns, isi_Is, isi_Si, isi_Bi, isi_Bb, isi_L, lenD_T, lenD_T2, its_T2, ixD_P0, ixD_P1, eqD_S]
  rw [forS_to (([], 0, 0) : List (Int × Int) × Int × Int) (fun k => enA (goA one two k ([], 0, 0))) _ rfl]
  · rw [q_bind_ret, rngL_length]
    show M.ret (goA one two (one.length + two.length) ([], 0, 0)).1 = _
    rw [due_go (Nat.zero_le _) (Nat.zero_le _) (by unfold meas; simp)]
    unfold dueA
    simp
  · intro k x hx
    have hk := (rngL_get hx).1
    obtain ⟨b1, b2, b3⟩ := go_ok h1 h2 k
    rw [go_succ h1 h2]
    generalize goA one two k ([], 0, 0) = st at b1 b2 b3
    by_cases c : st.2.1 < one.length ∧ st.2.2 < two.length
    · obtain ⟨hi, hj⟩ := c
      rw [step_en hi hj]
      have g1 : one[st.2.1]? = some one[st.2.1] := List.getElem?_eq_getElem hi
      have g2 : two[st.2.2]? = some two[st.2.2] := List.getElem?_eq_getElem hj
      unfold enA
      have tl := tbl_le hi hj
      simp only [decide_eq_true (show ((st.2.1 : Nat) : Int) < ((one.length : Nat) : Int) by omega), decide_eq_true (show ((st.2.2 : Nat) : Int) < ((two.length : Nat) : Int) by omega), ixM_eq g1, ixM_eq g2, tl, appM_eq (show st.1.length < 16777216 by omega), q_bind_ret, q_bind_fail, q_bind_exn, q_noex_ret, q_ofO_some, q_ofO_none, andM_t, andM_f, orM_t, orM_f, ite_ret, notM_ret, andM_rr, orM_rr, lpK_inl, lpK_inr, forS_nil, forC_nil, Bool.not_true, Bool.not_false, Bool.true_and, Bool.false_and, Bool.and_true, Bool.and_false, Bool.true_or, Bool.false_or, Bool.or_false, Bool.or_true, Bool.not_not, List.length_map, M.bind_ret, decide_true, decide_false, reduceIte, Bool.false_eq_true, DD.str_inj, String.reduceEq, Option.isSome_some, Option.isSome_none, its_T, asS_S, asI_I, isi_T, isi_T2, isi_S, isi_I, isi_Ib, isi_St, isi_It, isi_Nt, isi_Ns, isi_Is, isi_Si, isi_Bi, isi_Bb, isi_L, lenD_T, lenD_T2, its_T2, ixD_P0, ixD_P1, eqD_S]
      by_cases q : one[st.2.1] = two[st.2.2]
      · simp only [q, decide_true, q_bind_ret, q_bind_fail, q_bind_exn, q_noex_ret, q_ofO_some, q_ofO_none, andM_t, andM_f, orM_t, orM_f, ite_ret, notM_ret, andM_rr, orM_rr, lpK_inl, lpK_inr, forS_nil, forC_nil, Bool.not_true, Bool.not_false, Bool.true_and, Bool.false_and, Bool.and_true, Bool.and_false, Bool.true_or, Bool.false_or, Bool.or_false, Bool.or_true, Bool.not_not, List.length_map, M.bind_ret, decide_true, decide_false, reduceIte, Bool.false_eq_true, DD.str_inj, String.reduceEq, Option.isSome_some, Option.isSome_none, its_T, asS_S, asI_I, isi_T, isi_T2, isi_S, isi_I, isi_Ib, isi_St, isi_It, isi_Nt, isi_Ns, isi_Is, isi_Si, isi_Bi, isi_Bb, isi_L, lenD_T, lenD_T2, its_T2, ixD_P0, ixD_P1, eqD_S]
      · rw [if_neg q]
        simp only [decide_eq_false q, q_bind_ret, q_bind_fail, q_bind_exn, q_noex_ret, q_ofO_some, q_ofO_none, andM_t, andM_f, orM_t, orM_f, ite_ret, notM_ret, andM_rr, orM_rr, lpK_inl, lpK_inr, forS_nil, forC_nil, Bool.not_true, Bool.not_false, Bool.true_and, Bool.false_and, Bool.and_true, Bool.and_false, Bool.true_or, Bool.false_or, Bool.or_false, Bool.or_true, Bool.not_not, List.length_map, M.bind_ret, decide_true, decide_false, reduceIte, Bool.false_eq_true, DD.str_inj, String.reduceEq, Option.isSome_some, Option.isSome_none, its_T, asS_S, asI_I, isi_T, isi_T2, isi_S, isi_I, isi_Ib, isi_St, isi_It, isi_Nt, isi_Ns, isi_Is, isi_Si, isi_Bi, isi_Bb, isi_L, lenD_T, lenD_T2, its_T2, ixD_P0, ixD_P1, eqD_S]
        by_cases z : lcs (one.drop st.2.1) (two.drop (st.2.2 + 1)) ≤ lcs (one.drop (st.2.1 + 1)) (two.drop st.2.2)
        · simp only [decide_eq_true z, if_pos z, q_bind_ret, q_bind_fail, q_bind_exn, q_noex_ret, q_ofO_some, q_ofO_none, andM_t, andM_f, orM_t, orM_f, ite_ret, notM_ret, andM_rr, orM_rr, lpK_inl, lpK_inr, forS_nil, forC_nil, Bool.not_true, Bool.not_false, Bool.true_and, Bool.false_and, Bool.and_true, Bool.and_false, Bool.true_or, Bool.false_or, Bool.or_false, Bool.or_true, Bool.not_not, List.length_map, M.bind_ret, decide_true, decide_false, reduceIte, Bool.false_eq_true, DD.str_inj, String.reduceEq, Option.isSome_some, Option.isSome_none, its_T, asS_S, asI_I, isi_T, isi_T2, isi_S, isi_I, isi_Ib, isi_St, isi_It, isi_Nt, isi_Ns, isi_Is, isi_Si, isi_Bi, isi_Bb, isi_L, lenD_T, lenD_T2, its_T2, ixD_P0, ixD_P1, eqD_S]
        · simp only [decide_eq_false z, if_neg z, q_bind_ret, q_bind_fail, q_bind_exn, q_noex_ret, q_ofO_some, q_ofO_none, andM_t, andM_f, orM_t, orM_f, ite_ret, notM_ret, andM_rr, orM_rr, lpK_inl, lpK_inr, forS_nil, forC_nil, Bool.not_true, Bool.not_false, Bool.true_and, Bool.false_and, Bool.and_true, Bool.and_false, Bool.true_or, Bool.false_or, Bool.or_false, Bool.or_true, Bool.not_not, List.length_map, M.bind_ret, decide_true, decide_false, reduceIte, Bool.false_eq_true, DD.str_inj, String.reduceEq, Option.isSome_some, Option.isSome_none, its_T, asS_S, asI_I, isi_T, isi_T2, isi_S, isi_I, isi_Ib, isi_St, isi_It, isi_Nt, isi_Ns, isi_Is, isi_Si, isi_Bi, isi_Bb, isi_L, lenD_T, lenD_T2, its_T2, ixD_P0, ixD_P1, eqD_S]
    · have es : stepA one two st = st := by
        unfold stepA
        by_cases c1 : st.2.1 < one.length
        · rw [show two[st.2.2]? = none from List.getElem?_eq_none (by omega)]
          cases one[st.2.1]? <;> rfl
        · rw [show one[st.2.1]? = none from List.getElem?_eq_none (by omega)]
      rw [es]
      unfold enA
      by_cases c1 : st.2.1 < one.length
      · simp only [decide_eq_false (show ¬ ((st.2.2 : Nat) : Int) < ((two.length : Nat) : Int) by omega), q_bind_ret, q_bind_fail, q_bind_exn, q_noex_ret, q_ofO_some, q_ofO_none, andM_t, andM_f, orM_t, orM_f, ite_ret, notM_ret, andM_rr, orM_rr, lpK_inl, lpK_inr, forS_nil, forC_nil, Bool.not_true, Bool.not_false, Bool.true_and, Bool.false_and, Bool.and_true, Bool.and_false, Bool.true_or, Bool.false_or, Bool.or_false, Bool.or_true, Bool.not_not, List.length_map, M.bind_ret, decide_true, decide_false, reduceIte, Bool.false_eq_true, DD.str_inj, String.reduceEq, Option.isSome_some, Option.isSome_none, its_T, asS_S, asI_I, isi_T, isi_T2, isi_S, isi_I, isi_Ib, isi_St, isi_It, isi_Nt, isi_Ns, isi_Is, isi_Si, isi_Bi, isi_Bb, isi_L, lenD_T, lenD_T2, its_T2, ixD_P0, ixD_P1, eqD_S]
      · simp only [decide_eq_false (show ¬ ((st.2.1 : Nat) : Int) < ((one.length : Nat) : Int) by omega), q_bind_ret, q_bind_fail, q_bind_exn, q_noex_ret, q_ofO_some, q_ofO_none, andM_t, andM_f, orM_t, orM_f, ite_ret, notM_ret, andM_rr, orM_rr, lpK_inl, lpK_inr, forS_nil, forC_nil, Bool.not_true, Bool.not_false, Bool.true_and, Bool.false_and, Bool.and_true, Bool.and_false, Bool.true_or, Bool.false_or, Bool.or_false, Bool.or_true, Bool.not_not, List.length_map, M.bind_ret, decide_true, decide_false, reduceIte, Bool.false_eq_true, DD.str_inj, String.reduceEq, Option.isSome_some, Option.isSome_none, its_T, asS_S, asI_I, isi_T, isi_T2, isi_S, isi_I, isi_Ib, isi_St, isi_It, isi_Nt, isi_Ns, isi_Is, isi_Si, isi_Bi, isi_Bb, isi_L, lenD_T, lenD_T2, its_T2, ixD_P0, ixD_P1, eqD_S]
end
end HD
namespace HD
open PySem DD
theorem ct_ok (t : Str) {l : List Str} (h : l.length ≤ 20) : t_check_text t l = M.ret () := by
  unfold t_check_text
  simp only [decide_eq_false (show ¬ (20 : Int) < ((l.length : Nat) : Int) by omega), q_bind_ret, q_bind_fail, q_bind_exn, q_noex_ret, q_ofO_some, q_ofO_none, andM_t, andM_f, orM_t, orM_f, ite_ret, notM_ret, andM_rr, orM_rr, lpK_inl, lpK_inr, forS_nil, forC_nil, Bool.not_true, Bool.not_false, Bool.true_and, Bool.false_and, Bool.and_true, Bool.and_false, Bool.true_or, Bool.false_or, Bool.or_false, Bool.or_true, Bool.not_not, List.length_map, M.bind_ret, decide_true, decide_false, reduceIte, Bool.false_eq_true, DD.str_inj, String.reduceEq, Option.isSome_some, Option.isSome_none, its_T, asS_S, asI_I, isi_T, isi_T2, isi_S, isi_I, isi_Ib, isi_St, isi_It, isi_Nt, isi_Ns, isi_Is, isi_Si, isi_Bi, isi_Bb, isi_L, lenD_T, lenD_T2, its_T2, ixD_P0, ixD_P1, eqD_S]
  rw [forS_unit]
  · rfl
  · intro x _
    rfl
theorem catM_eq {α : Type} {l r : List α} (h : l.length + r.length ≤ 16777216) : (catM l r : M JS _) = M.ret (l ++ r) := if_pos h
theorem cut_len {α : Type} (l : List α) (lo hi : Option Int) : (cutD l lo hi).length ≤ l.length := by
  unfold cutD
  rw [List.length_take, List.length_drop]
  omega
theorem cut_sub {α : Type} {l : List α} {lo hi : Option Int} {x : α} (h : x ∈ cutD l lo hi) : x ∈ l := by
  unfold cutD at h
  exact List.mem_of_mem_drop (List.mem_of_mem_take h)
theorem h_pick {α : Type} {A0 A1 : Addr} (ne : A0 ≠ A1) {l : List α} (h0 : 0 < l.length) (h1 : l.length < 1073741824) : Tr (t__law_pick A0 A1 () l) fun x => x ∈ l := by
  unfold t__law_pick
  refine Tr.bind (h_take ne (by omega) (by omega)) fun r ⟨a, b⟩ => ?_
  obtain ⟨n, rfl⟩ := Int.eq_ofNat_of_zero_le a
  have : n < l.length := by omega
  exact Tr.eq (ixM_eq (List.getElem?_eq_getElem this)) (List.getElem_mem _)
theorem h_lines {A0 A1 : Addr} (ne : A0 ≠ A1) : Tr (t__law_lines A0 A1 () 8) fun l => l.length ≤ 8 := by
  unfold t__law_lines
  simp only [q_bind_ret, q_bind_fail, q_bind_exn, q_noex_ret, q_ofO_some, q_ofO_none, andM_t, andM_f, orM_t, orM_f, ite_ret, notM_ret, andM_rr, orM_rr, lpK_inl, lpK_inr, forS_nil, forC_nil, Bool.not_true, Bool.not_false, Bool.true_and, Bool.false_and, Bool.and_true, Bool.and_false, Bool.true_or, Bool.false_or, Bool.or_false, Bool.or_true, Bool.not_not, List.length_map, M.bind_ret, decide_true, decide_false, reduceIte, Bool.false_eq_true, DD.str_inj, String.reduceEq, Option.isSome_some, Option.isSome_none, its_T, asS_S, asI_I, isi_T, isi_T2, isi_S, isi_I, isi_Ib, isi_St, isi_It, isi_Nt, isi_Ns, isi_Is, isi_Si, isi_Bi, isi_Bb, isi_L, lenD_T, lenD_T2, its_T2, ixD_P0, ixD_P1, eqD_S]
  refine Tr.bind (Q := fun p => p.1.length ≤ 8) (Tr.bind (Q := fun l => l.length ≤ 8) (Tr.bind (Q := fun l => l.length ≤ 8) (Tr.bind (h_take ne (by decide) (by decide)) fun r ⟨a, b⟩ => ?_) fun l hl => ?_) fun l hl => Tr.ret hl) fun p hp => Tr.ret hp
  · obtain ⟨n, rfl⟩ := Int.eq_ofNat_of_zero_le a
    exact Tr.eq (rng1_eq (by omega)) (by rw [rngL_length]; omega)
  · unfold lcM
    rw [if_pos (by omega)]
    exact (Tr.comp (P := fun _ => True) (fun _ => True) l (fun _ _ => trivial) (fun _ _ => Tr.ret trivial) fun x _ => (h_pick ne (by decide) (by decide)).mono fun _ _ => trivial).mono fun ys h => by omega
theorem h_edit {A0 A1 : Addr} (ne : A0 ≠ A1) {base : List Str} (hb : base.length ≤ 8) : Tr (t__law_edit A0 A1 () base) fun l => l.length ≤ 17 := by
  unfold t__law_edit
  simp only [q_bind_ret, q_bind_fail, q_bind_exn, q_noex_ret, q_ofO_some, q_ofO_none, andM_t, andM_f, orM_t, orM_f, ite_ret, notM_ret, andM_rr, orM_rr, lpK_inl, lpK_inr, forS_nil, forC_nil, Bool.not_true, Bool.not_false, Bool.true_and, Bool.false_and, Bool.and_true, Bool.and_false, Bool.true_or, Bool.false_or, Bool.or_false, Bool.or_true, Bool.not_not, List.length_map, M.bind_ret, decide_true, decide_false, reduceIte, Bool.false_eq_true, DD.str_inj, String.reduceEq, Option.isSome_some, Option.isSome_none, its_T, asS_S, asI_I, isi_T, isi_T2, isi_S, isi_I, isi_Ib, isi_St, isi_It, isi_Nt, isi_Ns, isi_Is, isi_Si, isi_Bi, isi_Bb, isi_L, lenD_T, lenD_T2, its_T2, ixD_P0, ixD_P1, eqD_S]
  have ap : ∀ (l : List Str) (x : Str) (n : Nat), l.length ≤ n → n < 100 → Tr (appM l x : M JS _) fun l' => l'.length ≤ n + 1 := fun l x n h hn => Tr.eq (appM_eq (by omega)) (by simp; omega)
  refine Tr.bind (Q := fun l => l.length ≤ 16) ((Tr.forS (fun i l => l.length ≤ 2 * i) base (st := []) (by simp) fun i x st hi hs => ?_).mono fun l h => by omega) fun l hl => ?_
  · have hil := (List.getElem?_eq_some_iff.mp hi).1
    refine Tr.bind (h_take ne (by decide) (by decide)) fun deed _ => ?_
    by_cases c : deed < 3
    · simp only [decide_eq_true c, decide_eq_false (show ¬ deed = 3 by omega), decide_eq_false (show ¬ deed = 4 by omega), q_bind_ret, q_bind_fail, q_bind_exn, q_noex_ret, q_ofO_some, q_ofO_none, andM_t, andM_f, orM_t, orM_f, ite_ret, notM_ret, andM_rr, orM_rr, lpK_inl, lpK_inr, forS_nil, forC_nil, Bool.not_true, Bool.not_false, Bool.true_and, Bool.false_and, Bool.and_true, Bool.and_false, Bool.true_or, Bool.false_or, Bool.or_false, Bool.or_true, Bool.not_not, List.length_map, M.bind_ret, decide_true, decide_false, reduceIte, Bool.false_eq_true, DD.str_inj, String.reduceEq, Option.isSome_some, Option.isSome_none, its_T, asS_S, asI_I, isi_T, isi_T2, isi_S, isi_I, isi_Ib, isi_St, isi_It, isi_Nt, isi_Ns, isi_Is, isi_Si, isi_Bi, isi_Bb, isi_L, lenD_T, lenD_T2, its_T2, ixD_P0, ixD_P1, eqD_S]
      exact (ap st x (2 * i) hs (by omega)).mono fun l hl => by omega
    · by_cases c4 : deed = 4
      · simp only [decide_eq_false c, decide_eq_true c4, q_bind_ret, q_bind_fail, q_bind_exn, q_noex_ret, q_ofO_some, q_ofO_none, andM_t, andM_f, orM_t, orM_f, ite_ret, notM_ret, andM_rr, orM_rr, lpK_inl, lpK_inr, forS_nil, forC_nil, Bool.not_true, Bool.not_false, Bool.true_and, Bool.false_and, Bool.and_true, Bool.and_false, Bool.true_or, Bool.false_or, Bool.or_false, Bool.or_true, Bool.not_not, List.length_map, M.bind_ret, decide_true, decide_false, reduceIte, Bool.false_eq_true, DD.str_inj, String.reduceEq, Option.isSome_some, Option.isSome_none, its_T, asS_S, asI_I, isi_T, isi_T2, isi_S, isi_I, isi_Ib, isi_St, isi_It, isi_Nt, isi_Ns, isi_Is, isi_Si, isi_Bi, isi_Bb, isi_L, lenD_T, lenD_T2, its_T2, ixD_P0, ixD_P1, eqD_S]
        exact Tr.bind (Q := fun l => l.length ≤ 2 * i + 1) (Tr.bind (h_pick ne (by decide) (by decide)) fun y _ => ap st y (2 * i) hs (by omega)) fun l hl => (ap l x (2 * i + 1) hl (by omega)).mono fun l' h' => by omega
      · by_cases c3 : deed = 3
        · simp only [decide_eq_false c, decide_eq_true c3, decide_eq_false c4, q_bind_ret, q_bind_fail, q_bind_exn, q_noex_ret, q_ofO_some, q_ofO_none, andM_t, andM_f, orM_t, orM_f, ite_ret, notM_ret, andM_rr, orM_rr, lpK_inl, lpK_inr, forS_nil, forC_nil, Bool.not_true, Bool.not_false, Bool.true_and, Bool.false_and, Bool.and_true, Bool.and_false, Bool.true_or, Bool.false_or, Bool.or_false, Bool.or_true, Bool.not_not, List.length_map, M.bind_ret, decide_true, decide_false, reduceIte, Bool.false_eq_true, DD.str_inj, String.reduceEq, Option.isSome_some, Option.isSome_none, its_T, asS_S, asI_I, isi_T, isi_T2, isi_S, isi_I, isi_Ib, isi_St, isi_It, isi_Nt, isi_Ns, isi_Is, isi_Si, isi_Bi, isi_Bb, isi_L, lenD_T, lenD_T2, its_T2, ixD_P0, ixD_P1, eqD_S]
          exact Tr.bind (h_pick ne (by decide) (by decide)) fun y _ => (ap st y (2 * i) hs (by omega)).mono fun l hl => by omega
        · simp only [decide_eq_false c, decide_eq_false c3, decide_eq_false c4, q_bind_ret, q_bind_fail, q_bind_exn, q_noex_ret, q_ofO_some, q_ofO_none, andM_t, andM_f, orM_t, orM_f, ite_ret, notM_ret, andM_rr, orM_rr, lpK_inl, lpK_inr, forS_nil, forC_nil, Bool.not_true, Bool.not_false, Bool.true_and, Bool.false_and, Bool.and_true, Bool.and_false, Bool.true_or, Bool.false_or, Bool.or_false, Bool.or_true, Bool.not_not, List.length_map, M.bind_ret, decide_true, decide_false, reduceIte, Bool.false_eq_true, DD.str_inj, String.reduceEq, Option.isSome_some, Option.isSome_none, its_T, asS_S, asI_I, isi_T, isi_T2, isi_S, isi_I, isi_Ib, isi_St, isi_It, isi_Nt, isi_Ns, isi_Is, isi_Si, isi_Bi, isi_Bb, isi_L, lenD_T, lenD_T2, its_T2, ixD_P0, ixD_P1, eqD_S]
          exact Tr.ret (show st.length ≤ 2 * (i + 1) by omega)
  · refine Tr.bind (Q := fun _ => True) (Tr.bind (h_take ne (by decide) (by decide)) fun _ _ => Tr.ret trivial) fun b _ => ?_
    cases b with
    | true =>
      rw [if_pos rfl]
      exact Tr.bind (h_pick ne (by decide) (by decide)) fun y _ => (ap l y 16 hl (by omega)).mono fun l' h => h
    | false =>
      rw [if_neg (by decide)]
      exact Tr.ret (show l.length ≤ 17 by omega)
end HD
namespace HD
open PySem DD
abbrev R3 := Int × Int × Int
abbrev PP := List Str × List Str × List Str
/-! alignments rise, and their lines are alike -/
theorem al_up (n : Nat) : ∀ (x y : List Str) (i j : Int), x.length + y.length ≤ n → (al x y i j).Pairwise fun p q => p.1 < q.1 ∧ p.2 < q.2 := by
  induction n with
  | zero =>
    intro x y i j h
    have : x = [] := List.eq_nil_of_length_eq_zero (by omega)
    subst this
    rw [al_nil]; exact .nil
  | succ n ih =>
    intro x y i j h
    cases x with
    | nil => rw [al_nil]; exact .nil
    | cons a x =>
      cases y with
      | nil => rw [al_nil2]; exact .nil
      | cons b y =>
        simp only [List.length_cons] at h
        rw [al_cons]
        by_cases q : a = b
        · rw [if_pos q]
          refine List.pairwise_cons.mpr ⟨fun p hp => ?_, ih x y _ _ (by omega)⟩
          have := al_bound _ x y (i + 1) (j + 1) (Nat.le_refl _) p hp
          dsimp only
          omega
        · rw [if_neg q]
          by_cases z : lcs (a :: x) y ≤ lcs x (b :: y)
          · rw [if_pos z]; exact ih x (b :: y) _ _ (by simp; omega)
          · rw [if_neg z]; exact ih (a :: x) y _ _ (by simp; omega)
theorem al_line (n : Nat) : ∀ (x y : List Str) (i j : Int), x.length + y.length ≤ n → ∀ p ∈ al x y i j, x[(p.1 - i).toNat]? = y[(p.2 - j).toNat]? := by
  induction n with
  | zero =>
    intro x y i j h p hp
    have : x = [] := List.eq_nil_of_length_eq_zero (by omega)
    subst this
    rw [al_nil] at hp; cases hp
  | succ n ih =>
    intro x y i j h p hp
    cases x with
    | nil => rw [al_nil] at hp; cases hp
    | cons a x =>
      cases y with
      | nil => rw [al_nil2] at hp; cases hp
      | cons b y =>
        simp only [List.length_cons] at h
        rw [al_cons] at hp
        by_cases q : a = b
        · rw [if_pos q] at hp
          rcases List.mem_cons.mp hp with rfl | hp
          · simp [q]
          · have h0 := al_bound _ x y (i + 1) (j + 1) (Nat.le_refl _) p hp
            have := ih x y (i + 1) (j + 1) (by omega) p hp
            rw [show (p.1 - i).toNat = (p.1 - (i + 1)).toNat + 1 by omega, show (p.2 - j).toNat = (p.2 - (j + 1)).toNat + 1 by omega, List.getElem?_cons_succ, List.getElem?_cons_succ]
            exact this
        · rw [if_neg q] at hp
          by_cases z : lcs (a :: x) y ≤ lcs x (b :: y)
          · rw [if_pos z] at hp
            have h0 := al_bound _ x (b :: y) (i + 1) j (Nat.le_refl _) p hp
            have := ih x (b :: y) (i + 1) j (by simp; omega) p hp
            rw [show (p.1 - i).toNat = (p.1 - (i + 1)).toNat + 1 by omega, List.getElem?_cons_succ]
            exact this
          · rw [if_neg z] at hp
            have h0 := al_bound _ (a :: x) y i (j + 1) (Nat.le_refl _) p hp
            have := ih (a :: x) y i (j + 1) (by simp; omega) p hp
            rw [show (p.2 - j).toNat = (p.2 - (j + 1)).toNat + 1 by omega, List.getElem?_cons_succ]
            exact this
theorem al_self : ∀ (x : List Str) (i : Int) (p : Int × Int), p ∈ al x x i i ↔ p.1 = p.2 ∧ i ≤ p.1 ∧ p.1 < i + x.length
  | [], i, p => by
    rw [al_nil]
    constructor
    · intro h; cases h
    · rintro ⟨_, h1, h2⟩; simp at h2; omega
  | a :: x, i, p => by
    rw [al_cons, if_pos rfl, List.mem_cons, al_self x (i + 1) p, List.length_cons]
    constructor
    · rintro (rfl | h)
      · exact ⟨rfl, by omega, by dsimp only; omega⟩
      · omega
    · intro h
      by_cases e : p.1 = i
      · left; exact Prod.ext e (by rw [← h.1]; exact e)
      · right; omega
/-! lists that rise by a key -/
theorem key_unique {α : Type} (key : α → Int) : ∀ {a b : List α}, a.Pairwise (fun x y => key x < key y) → b.Pairwise (fun x y => key x < key y) → (∀ x, x ∈ a ↔ x ∈ b) → a = b
  | [], [], _, _, _ => rfl
  | [], y :: b, _, _, h => by have := (h y).mpr List.mem_cons_self; cases this
  | x :: a, [], _, _, h => by have := (h x).mp List.mem_cons_self; cases this
  | x :: a, y :: b, h1, h2, h => by
    obtain ⟨p1, p2⟩ := List.pairwise_cons.mp h1
    obtain ⟨q1, q2⟩ := List.pairwise_cons.mp h2
    have e : x = y := by
      rcases List.mem_cons.mp ((h x).mp List.mem_cons_self) with e | hx
      · exact e
      · rcases List.mem_cons.mp ((h y).mpr List.mem_cons_self) with e | hy
        · exact e.symm
        · have := q1 x hx; have := p1 y hy; omega
    subst e
    rw [key_unique key p2 q2 fun k => ⟨fun hk => ?_, fun hk => ?_⟩]
    · rcases List.mem_cons.mp ((h k).mp (List.mem_cons_of_mem _ hk)) with e | z
      · have := p1 k hk; subst e; omega
      · exact z
    · rcases List.mem_cons.mp ((h k).mpr (List.mem_cons_of_mem _ hk)) with e | z
      · have := q1 k hk; subst e; omega
      · exact z
theorem key_inj {α : Type} (key : α → Int) : ∀ {a : List α}, a.Pairwise (fun x y => key x < key y) → ∀ {x y : α}, x ∈ a → y ∈ a → key x = key y → x = y
  | [], _, _, _, h, _, _ => by cases h
  | z :: a, h, x, y, hx, hy, e => by
    obtain ⟨p1, p2⟩ := List.pairwise_cons.mp h
    rcases List.mem_cons.mp hx with ex | hx'
    · rcases List.mem_cons.mp hy with ey | hy'
      · rw [ex, ey]
      · have := p1 y hy'; rw [ex] at e; omega
    · rcases List.mem_cons.mp hy with ey | hy'
      · have := p1 x hx'; rw [ey] at e; omega
      · exact key_inj key p2 hx' hy' e
/-! the kept lines -/
def keptL (A B : List (Int × Int)) : List R3 := A.flatMap fun x => (B.filter fun y => decide (x.1 = y.1)).map fun y => (x.1, x.2, y.2)
theorem kept_mem {A B : List (Int × Int)} {r : R3} : r ∈ keptL A B ↔ (r.1, r.2.1) ∈ A ∧ (r.1, r.2.2) ∈ B := by
  unfold keptL
  rw [List.mem_flatMap]
  constructor
  · rintro ⟨x, hx, h⟩
    obtain ⟨y, hy, rfl⟩ := List.mem_map.mp h
    obtain ⟨h1, h2⟩ := List.mem_filter.mp hy
    have h2 : x.1 = y.1 := of_decide_eq_true h2
    exact ⟨hx, by dsimp only; rw [h2]; exact h1⟩
  · rintro ⟨h1, h2⟩
    exact ⟨_, h1, List.mem_map.mpr ⟨_, List.mem_filter.mpr ⟨h2, decide_eq_true rfl⟩, rfl⟩⟩
abbrev Up (A : List (Int × Int)) : Prop := A.Pairwise fun p q => p.1 < q.1 ∧ p.2 < q.2
theorem kept_up : ∀ {A B : List (Int × Int)}, Up A → Up B → (keptL A B).Pairwise fun p q => p.1 < q.1
  | [], _, _, _ => .nil
  | x :: A, B, hA, hB => by
    obtain ⟨p1, p2⟩ := List.pairwise_cons.mp hA
    have e : keptL (x :: A) B = ((B.filter fun y => decide (x.1 = y.1)).map fun y => (x.1, x.2, y.2)) ++ keptL A B := by unfold keptL; rw [List.flatMap_cons]
    rw [e, List.pairwise_append]
    refine ⟨?_, kept_up p2 hB, fun a ha b hb => ?_⟩
    · refine List.pairwise_map.mpr (List.Pairwise.imp_of_mem (fun {a b} ha hb h => ?_) (hB.filter _))
      have h1 : x.1 = a.1 := of_decide_eq_true (List.mem_filter.mp ha).2
      have h2 : x.1 = b.1 := of_decide_eq_true (List.mem_filter.mp hb).2
      omega
    · obtain ⟨y, _, rfl⟩ := List.mem_map.mp ha
      exact (p1 _ (kept_mem.mp hb).1).1
theorem kept_len (A B : List (Int × Int)) : (keptL A B).length ≤ A.length * B.length := by
  induction A with
  | nil => simp [keptL]
  | cons x A ih =>
    have e : keptL (x :: A) B = ((B.filter fun y => decide (x.1 = y.1)).map fun y => (x.1, x.2, y.2)) ++ keptL A B := by unfold keptL; rw [List.flatMap_cons]
    have := List.length_filter_le (fun y => decide (x.1 = y.1)) B
    rw [e, List.length_append, List.length_map, List.length_cons, Nat.succ_mul]
    omega
def swR (r : R3) : R3 := (r.1, r.2.2, r.2.1)
def swP (p : PP) : PP := (p.1, p.2.2, p.2.1)
theorem kept_swap {A B : List (Int × Int)} (hA : Up A) (hB : Up B) : keptL B A = (keptL A B).map swR := by
  refine key_unique (·.1) (kept_up hB hA) ?_ fun r => ?_
  · exact List.pairwise_map.mpr ((kept_up hA hB).imp fun h => h)
  · rw [kept_mem, List.mem_map]
    constructor
    · rintro ⟨h1, h2⟩
      exact ⟨swR r, kept_mem.mpr ⟨h2, h1⟩, rfl⟩
    · rintro ⟨z, hz, rfl⟩
      obtain ⟨h1, h2⟩ := kept_mem.mp hz
      exact ⟨h2, h1⟩
/-! the loops -/
theorem kl_loop (A B : List (Int × Int)) (hA : A.length ≤ 500) (hB : B.length ≤ 500) {f : Int × Int → List R3 → M JS (List R3)} (hf : ∀ x st, f x st = forS (fun y st1 => M.bind (if decide (x.1 = y.1) = true then appM st1 (x.1, x.2, y.2) else M.ret st1) M.ret) B st) : forS f A [] = M.ret (keptL A B) := by
  have main : ∀ (A : List (Int × Int)) (st : List R3), st.length + A.length * B.length ≤ 300000 → forS f A st = M.ret (st ++ keptL A B) := by
    intro A
    induction A with
    | nil => intro st _; simp [keptL, forS_nil]
    | cons x A ih =>
      intro st hl
      rw [List.length_cons, Nat.succ_mul] at hl
      have e : keptL (x :: A) B = ((B.filter fun y => decide (x.1 = y.1)).map fun y => (x.1, x.2, y.2)) ++ keptL A B := by unfold keptL; rw [List.flatMap_cons]
      have fl := List.length_filter_le (fun y => decide (x.1 = y.1)) B
      rw [forS_cons, hf, forS_app (fun y => decide (x.1 = y.1)) (fun y => ((x.1, x.2, y.2) : R3)) B st (by omega) fun y _ s hs => ?_]
      · rw [q_bind_ret, ih _ (by rw [List.length_append, List.length_map]; omega), e, List.append_assoc]
      · rw [M.bind_ret]
        by_cases q : x.1 = y.1
        · rw [decide_eq_true q, if_pos rfl, if_pos rfl, appM_eq hs]
        · rw [decide_eq_false q, if_neg (by decide), if_neg (by decide)]
  have : A.length * B.length ≤ 500 * 500 := Nat.mul_le_mul hA hB
  have := main A [] (by simp; omega)
  rwa [List.nil_append] at this
section
variable {base ours theirs : List Str} (hb : base.length ≤ 20) (ho : ours.length ≤ 20) (ht : theirs.length ≤ 20)
/-- the kept lines of three texts -/
def keptT (base ours theirs : List Str) : List R3 := keptL (al base ours 0 0) (al base theirs 0 0)
theorem al_short (x y : List Str) (h : x.length ≤ 20) : (al x y 0 0).length ≤ 20 := by
  have h1 := al_len _ x y 0 0 (Nat.le_refl _)
  obtain ⟨z, h2, _, h3⟩ := lcs_ex _ x y (Nat.le_refl _)
  have := h2.length_le
  omega
theorem al_upT (x y : List Str) : Up (al x y 0 0) := al_up _ x y 0 0 (Nat.le_refl _)
include hb in
theorem keptT_len : (keptT base ours theirs).length ≤ 400 := by
  have h1 := kept_len (al base ours 0 0) (al base theirs 0 0)
  have h2 := al_short base ours hb
  have h3 := al_short base theirs hb
  have : (al base ours 0 0).length * (al base theirs 0 0).length ≤ 20 * 20 := Nat.mul_le_mul h2 h3
  unfold keptT
  omega
include hb ho ht
theorem t_kept : t_kept_rows base ours theirs = M.ret (keptT base ours theirs) := by
  have h2 := al_short base ours hb
  have h3 := al_short base theirs hb
  unfold t_kept_rows
  rw [t_pairs (by omega) (by omega), q_bind_ret, t_pairs (by omega) (by omega), q_bind_ret, q_bind_ret, kl_loop (al base ours 0 0) (al base theirs 0 0) (by omega) (by omega) fun x st => ?_, q_bind_ret]
  · rfl
  · rw [M.bind_ret]
    congr 1
    funext y s
    simp only [q_bind_ret, q_bind_fail, q_bind_exn, q_noex_ret, q_ofO_some, q_ofO_none, andM_t, andM_f, orM_t, orM_f, ite_ret, notM_ret, andM_rr, orM_rr, lpK_inl, lpK_inr, forS_nil, forC_nil, Bool.not_true, Bool.not_false, Bool.true_and, Bool.false_and, Bool.and_true, Bool.and_false, Bool.true_or, Bool.false_or, Bool.or_false, Bool.or_true, Bool.not_not, List.length_map, M.bind_ret, decide_true, decide_false, reduceIte, Bool.false_eq_true, DD.str_inj, String.reduceEq, Option.isSome_some, Option.isSome_none, its_T, asS_S, asI_I, isi_T, isi_T2, isi_S, isi_I, isi_Ib, isi_St, isi_It, isi_Nt, isi_Ns, isi_Is, isi_Si, isi_Bi, isi_Bb, isi_L, lenD_T, lenD_T2, its_T2, ixD_P0, ixD_P1, eqD_S]
theorem t_lkept : t__law_kept base ours theirs = M.ret (keptT base ours theirs) := by
  have h2 := al_short base ours hb
  have h3 := al_short base theirs hb
  unfold t__law_kept
  rw [t_lalign (by omega) (by omega), q_bind_ret, t_lalign (by omega) (by omega), q_bind_ret, q_bind_ret, kl_loop (al base ours 0 0) (al base theirs 0 0) (by omega) (by omega) fun x st => ?_, q_bind_ret]
  · rfl
  · rw [M.bind_ret]
    congr 1
    funext y s
    simp only [q_bind_ret, q_bind_fail, q_bind_exn, q_noex_ret, q_ofO_some, q_ofO_none, andM_t, andM_f, orM_t, orM_f, ite_ret, notM_ret, andM_rr, orM_rr, lpK_inl, lpK_inr, forS_nil, forC_nil, Bool.not_true, Bool.not_false, Bool.true_and, Bool.false_and, Bool.and_true, Bool.and_false, Bool.true_or, Bool.false_or, Bool.or_false, Bool.or_true, Bool.not_not, List.length_map, M.bind_ret, decide_true, decide_false, reduceIte, Bool.false_eq_true, DD.str_inj, String.reduceEq, Option.isSome_some, Option.isSome_none, its_T, asS_S, asI_I, isi_T, isi_T2, isi_S, isi_I, isi_Ib, isi_St, isi_It, isi_Nt, isi_Ns, isi_Is, isi_Si, isi_Bi, isi_Bb, isi_L, lenD_T, lenD_T2, its_T2, ixD_P0, ixD_P1, eqD_S]
    rw [show decide (y.1 = x.1) = decide (x.1 = y.1) by rw [Bool.eq_iff_iff, decide_eq_true_iff, decide_eq_true_iff]; exact eq_comm]
end
end HD
namespace HD
open PySem DD
/-! the parts ahead of, between and behind the kept lines -/
def partsF (base ours theirs : List Str) : R3 → List R3 → List PP
  | _, [] => []
  | s, r :: rs => (cutD base (some s.1) (some r.1), cutD ours (some s.2.1) (some r.2.1), cutD theirs (some s.2.2) (some r.2.2)) :: partsF base ours theirs (r.1 + 1, r.2.1 + 1, r.2.2 + 1) rs
theorem partsF_len (base ours theirs : List Str) : ∀ (s : R3) (rs : List R3), (partsF base ours theirs s rs).length = rs.length
  | _, [] => rfl
  | s, r :: rs => by show (partsF base ours theirs _ rs).length + 1 = _; rw [partsF_len]; rfl
theorem partsF_sub {base ours theirs : List Str} : ∀ {s : R3} {rs : List R3} {p : PP}, p ∈ partsF base ours theirs s rs → p.1.length ≤ base.length ∧ p.2.1.length ≤ ours.length ∧ p.2.2.length ≤ theirs.length
  | _, [], _, h => by cases h
  | s, r :: rs, p, h => by
    rcases List.mem_cons.mp h with rfl | h
    · exact ⟨cut_len _ _ _, cut_len _ _ _, cut_len _ _ _⟩
    · exact partsF_sub h
theorem partsF_swap (base ours theirs : List Str) : ∀ (s : R3) (rs : List R3), partsF base theirs ours (swR s) (rs.map swR) = (partsF base ours theirs s rs).map swP
  | _, [] => rfl
  | s, r :: rs => by
    show _ :: partsF base theirs ours _ _ = _ :: (partsF base ours theirs _ rs).map swP
    rw [← partsF_swap base ours theirs (r.1 + 1, r.2.1 + 1, r.2.2 + 1) rs]
    rfl
def endT (base ours theirs : List Str) : R3 := ((base.length : Int), (ours.length : Int), (theirs.length : Int))
def partsT (base ours theirs : List Str) : List PP := partsF base ours theirs (0, 0, 0) (keptT base ours theirs ++ [endT base ours theirs])
/-! what becomes of a part -/
def clashB (p : PP) : Bool := (!decide (p.2.1 = p.1)) && ((!decide (p.2.2 = p.1)) && (!decide (p.2.1 = p.2.2)))
def chosS (side : Int) (p : PP) : List Str := if p.2.1 = p.1 then p.2.2 else if p.2.2 = p.1 ∨ p.2.1 = p.2.2 then p.2.1 else if side = 1 then p.2.1 else p.2.2
def mp (p : PP) : Option (List Str) := if clashB p = true then none else some (chosS 1 p)
theorem t_mpart (p : PP) : t_merged_part p = M.ret (mp p) := by
  unfold t_merged_part mp clashB chosS
  rw [q_bind_ret]
  by_cases c1 : p.2.1 = p.1
  · simp only [c1, decide_true, q_bind_ret, q_bind_fail, q_bind_exn, q_noex_ret, q_ofO_some, q_ofO_none, andM_t, andM_f, orM_t, orM_f, ite_ret, notM_ret, andM_rr, orM_rr, lpK_inl, lpK_inr, forS_nil, forC_nil, Bool.not_true, Bool.not_false, Bool.true_and, Bool.false_and, Bool.and_true, Bool.and_false, Bool.true_or, Bool.false_or, Bool.or_false, Bool.or_true, Bool.not_not, List.length_map, M.bind_ret, decide_true, decide_false, reduceIte, Bool.false_eq_true, DD.str_inj, String.reduceEq, Option.isSome_some, Option.isSome_none, its_T, asS_S, asI_I, isi_T, isi_T2, isi_S, isi_I, isi_Ib, isi_St, isi_It, isi_Nt, isi_Ns, isi_Is, isi_Si, isi_Bi, isi_Bb, isi_L, lenD_T, lenD_T2, its_T2, ixD_P0, ixD_P1, eqD_S]
  · by_cases c2 : p.2.2 = p.1
    · simp only [decide_eq_false c1, decide_eq_true c2, if_neg c1, c2, true_or, if_true, q_bind_ret, q_bind_fail, q_bind_exn, q_noex_ret, q_ofO_some, q_ofO_none, andM_t, andM_f, orM_t, orM_f, ite_ret, notM_ret, andM_rr, orM_rr, lpK_inl, lpK_inr, forS_nil, forC_nil, Bool.not_true, Bool.not_false, Bool.true_and, Bool.false_and, Bool.and_true, Bool.and_false, Bool.true_or, Bool.false_or, Bool.or_false, Bool.or_true, Bool.not_not, List.length_map, M.bind_ret, decide_true, decide_false, reduceIte, Bool.false_eq_true, DD.str_inj, String.reduceEq, Option.isSome_some, Option.isSome_none, its_T, asS_S, asI_I, isi_T, isi_T2, isi_S, isi_I, isi_Ib, isi_St, isi_It, isi_Nt, isi_Ns, isi_Is, isi_Si, isi_Bi, isi_Bb, isi_L, lenD_T, lenD_T2, its_T2, ixD_P0, ixD_P1, eqD_S]
    · by_cases c3 : p.2.1 = p.2.2
      · simp only [decide_eq_false c1, decide_eq_false c2, decide_eq_true c3, if_neg c1, if_pos (Or.inr c3), q_bind_ret, q_bind_fail, q_bind_exn, q_noex_ret, q_ofO_some, q_ofO_none, andM_t, andM_f, orM_t, orM_f, ite_ret, notM_ret, andM_rr, orM_rr, lpK_inl, lpK_inr, forS_nil, forC_nil, Bool.not_true, Bool.not_false, Bool.true_and, Bool.false_and, Bool.and_true, Bool.and_false, Bool.true_or, Bool.false_or, Bool.or_false, Bool.or_true, Bool.not_not, List.length_map, M.bind_ret, decide_true, decide_false, reduceIte, Bool.false_eq_true, DD.str_inj, String.reduceEq, Option.isSome_some, Option.isSome_none, its_T, asS_S, asI_I, isi_T, isi_T2, isi_S, isi_I, isi_Ib, isi_St, isi_It, isi_Nt, isi_Ns, isi_Is, isi_Si, isi_Bi, isi_Bb, isi_L, lenD_T, lenD_T2, its_T2, ixD_P0, ixD_P1, eqD_S]
      · simp only [decide_eq_false c1, decide_eq_false c2, decide_eq_false c3, q_bind_ret, q_bind_fail, q_bind_exn, q_noex_ret, q_ofO_some, q_ofO_none, andM_t, andM_f, orM_t, orM_f, ite_ret, notM_ret, andM_rr, orM_rr, lpK_inl, lpK_inr, forS_nil, forC_nil, Bool.not_true, Bool.not_false, Bool.true_and, Bool.false_and, Bool.and_true, Bool.and_false, Bool.true_or, Bool.false_or, Bool.or_false, Bool.or_true, Bool.not_not, List.length_map, M.bind_ret, decide_true, decide_false, reduceIte, Bool.false_eq_true, DD.str_inj, String.reduceEq, Option.isSome_some, Option.isSome_none, its_T, asS_S, asI_I, isi_T, isi_T2, isi_S, isi_I, isi_Ib, isi_St, isi_It, isi_Nt, isi_Ns, isi_Is, isi_Si, isi_Bi, isi_Bb, isi_L, lenD_T, lenD_T2, its_T2, ixD_P0, ixD_P1, eqD_S]
theorem t_chos (p : PP) {side : Int} (h : side = 1 ∨ side = 2) : t__law_chosen p side = M.ret (chosS side p) := by
  unfold t__law_chosen chosS
  by_cases c1 : p.2.1 = p.1
  · simp only [c1, decide_true, q_bind_ret, q_bind_fail, q_bind_exn, q_noex_ret, q_ofO_some, q_ofO_none, andM_t, andM_f, orM_t, orM_f, ite_ret, notM_ret, andM_rr, orM_rr, lpK_inl, lpK_inr, forS_nil, forC_nil, Bool.not_true, Bool.not_false, Bool.true_and, Bool.false_and, Bool.and_true, Bool.and_false, Bool.true_or, Bool.false_or, Bool.or_false, Bool.or_true, Bool.not_not, List.length_map, M.bind_ret, decide_true, decide_false, reduceIte, Bool.false_eq_true, DD.str_inj, String.reduceEq, Option.isSome_some, Option.isSome_none, its_T, asS_S, asI_I, isi_T, isi_T2, isi_S, isi_I, isi_Ib, isi_St, isi_It, isi_Nt, isi_Ns, isi_Is, isi_Si, isi_Bi, isi_Bb, isi_L, lenD_T, lenD_T2, its_T2, ixD_P0, ixD_P1, eqD_S]
  · by_cases c2 : p.2.2 = p.1
    · simp only [decide_eq_false c1, decide_eq_true c2, if_neg c1, c2, true_or, if_true, q_bind_ret, q_bind_fail, q_bind_exn, q_noex_ret, q_ofO_some, q_ofO_none, andM_t, andM_f, orM_t, orM_f, ite_ret, notM_ret, andM_rr, orM_rr, lpK_inl, lpK_inr, forS_nil, forC_nil, Bool.not_true, Bool.not_false, Bool.true_and, Bool.false_and, Bool.and_true, Bool.and_false, Bool.true_or, Bool.false_or, Bool.or_false, Bool.or_true, Bool.not_not, List.length_map, M.bind_ret, decide_true, decide_false, reduceIte, Bool.false_eq_true, DD.str_inj, String.reduceEq, Option.isSome_some, Option.isSome_none, its_T, asS_S, asI_I, isi_T, isi_T2, isi_S, isi_I, isi_Ib, isi_St, isi_It, isi_Nt, isi_Ns, isi_Is, isi_Si, isi_Bi, isi_Bb, isi_L, lenD_T, lenD_T2, its_T2, ixD_P0, ixD_P1, eqD_S]
    · by_cases c3 : p.2.1 = p.2.2
      · simp only [decide_eq_false c1, decide_eq_false c2, decide_eq_true c3, if_neg c1, if_pos (Or.inr c3), q_bind_ret, q_bind_fail, q_bind_exn, q_noex_ret, q_ofO_some, q_ofO_none, andM_t, andM_f, orM_t, orM_f, ite_ret, notM_ret, andM_rr, orM_rr, lpK_inl, lpK_inr, forS_nil, forC_nil, Bool.not_true, Bool.not_false, Bool.true_and, Bool.false_and, Bool.and_true, Bool.and_false, Bool.true_or, Bool.false_or, Bool.or_false, Bool.or_true, Bool.not_not, List.length_map, M.bind_ret, decide_true, decide_false, reduceIte, Bool.false_eq_true, DD.str_inj, String.reduceEq, Option.isSome_some, Option.isSome_none, its_T, asS_S, asI_I, isi_T, isi_T2, isi_S, isi_I, isi_Ib, isi_St, isi_It, isi_Nt, isi_Ns, isi_Is, isi_Si, isi_Bi, isi_Bb, isi_L, lenD_T, lenD_T2, its_T2, ixD_P0, ixD_P1, eqD_S]
      · simp only [decide_eq_false c1, decide_eq_false c2, decide_eq_false c3, if_neg c1, if_neg (show ¬ (p.2.2 = p.1 ∨ p.2.1 = p.2.2) from fun z => z.elim c2 c3), q_bind_ret, q_bind_fail, q_bind_exn, q_noex_ret, q_ofO_some, q_ofO_none, andM_t, andM_f, orM_t, orM_f, ite_ret, notM_ret, andM_rr, orM_rr, lpK_inl, lpK_inr, forS_nil, forC_nil, Bool.not_true, Bool.not_false, Bool.true_and, Bool.false_and, Bool.and_true, Bool.and_false, Bool.true_or, Bool.false_or, Bool.or_false, Bool.or_true, Bool.not_not, List.length_map, M.bind_ret, decide_true, decide_false, reduceIte, Bool.false_eq_true, DD.str_inj, String.reduceEq, Option.isSome_some, Option.isSome_none, its_T, asS_S, asI_I, isi_T, isi_T2, isi_S, isi_I, isi_Ib, isi_St, isi_It, isi_Nt, isi_Ns, isi_Is, isi_Si, isi_Bi, isi_Bb, isi_L, lenD_T, lenD_T2, its_T2, ixD_P0, ixD_P1, eqD_S]
        rcases h with rfl | rfl
        · rw [if_pos rfl]; exact ixM_eq (i := 1) rfl
        · rw [if_neg (by decide)]; exact ixM_eq (i := 2) rfl
theorem chos_len {side : Int} {p : PP} {n : Nat} (h1 : p.2.1.length ≤ n) (h2 : p.2.2.length ≤ n) : (chosS side p).length ≤ n := by
  unfold chosS
  split
  · exact h2
  · split
    · exact h1
    · split
      · exact h1
      · exact h2
theorem clash_swap (p : PP) : clashB (swP p) = clashB p := by
  unfold clashB swP
  dsimp only
  rw [show decide (p.2.2 = p.2.1) = decide (p.2.1 = p.2.2) by rw [Bool.eq_iff_iff, decide_eq_true_iff, decide_eq_true_iff]; exact eq_comm]
  cases decide (p.2.1 = p.1) <;> cases decide (p.2.2 = p.1) <;> rfl
theorem chos_swap {p : PP} (h : clashB p = false) (s s' : Int) : chosS s (swP p) = chosS s' p := by
  unfold clashB at h
  unfold chosS swP
  dsimp only
  by_cases c1 : p.2.1 = p.1
  · rw [if_pos c1]
    by_cases c2 : p.2.2 = p.1
    · rw [if_pos c2, c1, c2]
    · rw [if_neg c2, if_pos (Or.inl c1)]
  · rw [if_neg c1]
    by_cases c2 : p.2.2 = p.1
    · rw [if_pos c2, if_pos (Or.inl c2)]
    · rw [if_neg c2]
      by_cases c3 : p.2.1 = p.2.2
      · rw [if_pos (Or.inr c3.symm), if_pos (Or.inr c3), c3]
      · rw [decide_eq_false c1, decide_eq_false c2, decide_eq_false c3] at h
        cases h
/-! the parts with the kept lines between them -/
def lineAt (base : List Str) (k : R3) : Str := (base[k.1.toNat]?).getD ""
def piece (base : List Str) (kept : List R3) (rs : List (List Str)) (j : Nat) : List Str := (rs[j]?).getD [] ++ match kept[j]? with
  | some k => [lineAt base k]
  | none => []
def pre (base : List Str) (kept : List R3) (rs : List (List Str)) (k : Nat) : List Str := (List.range k).flatMap (piece base kept rs)
theorem pre_succ (base : List Str) (kept : List R3) (rs : List (List Str)) (k : Nat) : pre base kept rs (k + 1) = pre base kept rs k ++ piece base kept rs k := by
  unfold pre
  rw [List.range_succ, List.flatMap_append]
  simp
theorem pre_len {base : List Str} {kept : List R3} {rs : List (List Str)} (h : ∀ r ∈ rs, r.length ≤ 20) : ∀ k, (pre base kept rs k).length ≤ 21 * k
  | 0 => by simp [pre]
  | k + 1 => by
    rw [pre_succ, List.length_append]
    have ih := pre_len (base := base) (kept := kept) h k
    have : (piece base kept rs k).length ≤ 21 := by
      unfold piece
      rw [List.length_append]
      have h1 : ((rs[k]?).getD []).length ≤ 20 := by
        cases e : rs[k]? with
        | none => simp
        | some r => exact h r (List.mem_of_getElem? e)
      have h2 : (match kept[k]? with | some k => [lineAt base k] | none => ([] : List Str)).length ≤ 1 := by split <;> simp
      omega
    omega
def joinF (base : List Str) : List R3 → List (List Str) → List Str
  | _, [] => []
  | [], r :: rs => r ++ joinF base [] rs
  | k :: ks, r :: rs => r ++ lineAt base k :: joinF base ks rs
theorem pre_join (base : List Str) : ∀ (rs : List (List Str)) (kept : List R3), pre base kept rs rs.length = joinF base kept rs
  | [], kept => by cases kept <;> rfl
  | r :: rs, [] => by
    have ih := pre_join base rs []
    show pre base [] (r :: rs) (rs.length + 1) = r ++ joinF base [] rs
    rw [← ih]
    unfold pre
    rw [List.range_succ_eq_map, List.flatMap_cons, List.flatMap_map]
    unfold piece
    simp
  | r :: rs, k :: ks => by
    have ih := pre_join base rs ks
    show pre base (k :: ks) (r :: rs) (rs.length + 1) = r ++ lineAt base k :: joinF base ks rs
    rw [← ih]
    unfold pre
    rw [List.range_succ_eq_map, List.flatMap_cons, List.flatMap_map]
    unfold piece
    simp
theorem joinF_swap (base : List Str) : ∀ (kept : List R3) (rs : List (List Str)), joinF base (kept.map swR) rs = joinF base kept rs
  | _, [] => by unfold joinF; cases ‹List R3› <;> rfl
  | [], r :: rs => rfl
  | k :: ks, r :: rs => by
    show r ++ lineAt base (swR k) :: joinF base (ks.map swR) rs = r ++ lineAt base k :: joinF base ks rs
    rw [joinF_swap]
    rfl
theorem t_join {base : List Str} {kept : List R3} {rs : List (List Str)} (hk : ∀ k ∈ kept, 0 ≤ k.1 ∧ k.1 < base.length) (hr : ∀ r ∈ rs, r.length ≤ 20) (hl : rs.length ≤ 1000) : t_joined base kept (rs.map some) = M.ret (pre base kept rs rs.length) := by
  unfold t_joined
  rw [q_bind_ret, forS_to ([] : List Str) (pre base kept rs) _ rfl]
  · rw [enumL_length, List.length_map, q_bind_ret]
  · intro k x hx
    obtain ⟨z, hz, rfl⟩ := enumL_get hx
    rw [List.getElem?_map] at hz
    obtain ⟨r, hrk, rfl⟩ := Option.map_eq_some_iff.mp hz
    have hr20 := hr r (List.mem_of_getElem? hrk)
    have hkl := (List.getElem?_eq_some_iff.mp hrk).1
    have pl := pre_len (base := base) (kept := kept) hr k
    rw [q_ofO_some, q_bind_ret, forS_apm (fun l => l) r _ (by omega) (fun l _ s hs => by rw [appM_eq hs, q_bind_ret]), q_bind_ret, List.map_id', pre_succ]
    unfold piece
    rw [hrk]
    by_cases c : k < kept.length
    · have e1 : kept[k]? = some kept[k] := List.getElem?_eq_getElem c
      obtain ⟨b0, b1⟩ := hk _ (List.getElem_mem c)
      obtain ⟨q, hq⟩ := Int.eq_ofNat_of_zero_le b0
      have e2 : base[q]? = some (lineAt base kept[k]) := by
        unfold lineAt
        rw [hq, Int.toNat_natCast, List.getElem?_eq_getElem (by omega)]
        rfl
      simp only [decide_eq_true (show ((k : Nat) : Int) < ((kept.length : Nat) : Int) by omega), ixM_eq e1, hq, ixM_eq e2, q_bind_ret, q_bind_fail, q_bind_exn, q_noex_ret, q_ofO_some, q_ofO_none, andM_t, andM_f, orM_t, orM_f, ite_ret, notM_ret, andM_rr, orM_rr, lpK_inl, lpK_inr, forS_nil, forC_nil, Bool.not_true, Bool.not_false, Bool.true_and, Bool.false_and, Bool.and_true, Bool.and_false, Bool.true_or, Bool.false_or, Bool.or_false, Bool.or_true, Bool.not_not, List.length_map, M.bind_ret, decide_true, decide_false, reduceIte, Bool.false_eq_true, DD.str_inj, String.reduceEq, Option.isSome_some, Option.isSome_none, its_T, asS_S, asI_I, isi_T, isi_T2, isi_S, isi_I, isi_Ib, isi_St, isi_It, isi_Nt, isi_Ns, isi_Is, isi_Si, isi_Bi, isi_Bb, isi_L, lenD_T, lenD_T2, its_T2, ixD_P0, ixD_P1, eqD_S]
      rw [appM_eq (by rw [List.length_append]; omega), e1]
      simp
    · have e1 : kept[k]? = none := List.getElem?_eq_none (by omega)
      simp only [decide_eq_false (show ¬ ((k : Nat) : Int) < ((kept.length : Nat) : Int) by omega), q_bind_ret, q_bind_fail, q_bind_exn, q_noex_ret, q_ofO_some, q_ofO_none, andM_t, andM_f, orM_t, orM_f, ite_ret, notM_ret, andM_rr, orM_rr, lpK_inl, lpK_inr, forS_nil, forC_nil, Bool.not_true, Bool.not_false, Bool.true_and, Bool.false_and, Bool.and_true, Bool.and_false, Bool.true_or, Bool.false_or, Bool.or_false, Bool.or_true, Bool.not_not, List.length_map, M.bind_ret, decide_true, decide_false, reduceIte, Bool.false_eq_true, DD.str_inj, String.reduceEq, Option.isSome_some, Option.isSome_none, its_T, asS_S, asI_I, isi_T, isi_T2, isi_S, isi_I, isi_Ib, isi_St, isi_It, isi_Nt, isi_Ns, isi_Is, isi_Si, isi_Bi, isi_Bb, isi_L, lenD_T, lenD_T2, its_T2, ixD_P0, ixD_P1, eqD_S, e1]
      simp
/-! the loops over the parts -/
section
variable {base ours theirs : List Str} (hb : base.length ≤ 20) (ho : ours.length ≤ 20) (ht : theirs.length ≤ 20)
/-- loops that gather parts; g tells where a part begins -/
theorem pf_loop {f : R3 → List PP × R3 → M JS (List PP × R3)} (g h : R3 → R3) (gh : ∀ x, g (h x) = (x.1 + 1, x.2.1 + 1, x.2.2 + 1)) (hf : ∀ x st s, st.length < 1000 → f x (st, s) = M.ret (st ++ [(cutD base (some (g s).1) (some x.1), cutD ours (some (g s).2.1) (some x.2.1), cutD theirs (some (g s).2.2) (some x.2.2))], h x)) :
    ∀ (rs : List R3) (st : List PP) (s : R3), st.length + rs.length ≤ 1000 → ∃ r, forS f rs (st, s) = M.ret r ∧ r.1 = st ++ partsF base ours theirs (g s) rs
  | [], st, s, _ => ⟨_, rfl, by simp [partsF]⟩
  | x :: rs, st, s, hl => by
    rw [List.length_cons] at hl
    obtain ⟨r, h1, h2⟩ := pf_loop g h gh hf rs (st ++ [(cutD base (some (g s).1) (some x.1), cutD ours (some (g s).2.1) (some x.2.1), cutD theirs (some (g s).2.2) (some x.2.2))]) (h x) (by simp; omega)
    refine ⟨r, ?_, ?_⟩
    · rw [forS_cons, hf x st s (by omega), q_bind_ret, h1]
    · rw [h2, gh]
      show _ = st ++ (_ :: partsF base ours theirs (x.1 + 1, x.2.1 + 1, x.2.2 + 1) rs)
      simp
theorem partsT_len : (partsT base ours theirs).length = (keptT base ours theirs).length + 1 := by
  unfold partsT
  rw [partsF_len, List.length_append]
  rfl
include hb ho ht
theorem t_str : t_stretches base ours theirs = M.ret (partsT base ours theirs) := by
  have kl := keptT_len (ours := ours) (theirs := theirs) hb
  unfold t_stretches
  rw [t_kept hb ho ht, q_bind_ret, catM_eq (by simp; omega), q_bind_ret, q_bind_ret, q_bind_ret]
  refine bind_to (pf_loop (base := base) (ours := ours) (theirs := theirs) id (fun x => (x.1 + 1, x.2.1 + 1, x.2.2 + 1)) (fun _ => rfl) (fun x st s hs => ?_) _ [] (0, 0, 0) (by simp; omega)) fun r hr => by rw [hr]; rfl
  simp only [appM_eq (show st.length < 16777216 by omega), q_bind_ret, q_bind_fail, q_bind_exn, q_noex_ret, q_ofO_some, q_ofO_none, andM_t, andM_f, orM_t, orM_f, ite_ret, notM_ret, andM_rr, orM_rr, lpK_inl, lpK_inr, forS_nil, forC_nil, Bool.not_true, Bool.not_false, Bool.true_and, Bool.false_and, Bool.and_true, Bool.and_false, Bool.true_or, Bool.false_or, Bool.or_false, Bool.or_true, Bool.not_not, List.length_map, M.bind_ret, decide_true, decide_false, reduceIte, Bool.false_eq_true, DD.str_inj, String.reduceEq, Option.isSome_some, Option.isSome_none, its_T, asS_S, asI_I, isi_T, isi_T2, isi_S, isi_I, isi_Ib, isi_St, isi_It, isi_Nt, isi_Ns, isi_Is, isi_Si, isi_Bi, isi_Bb, isi_L, lenD_T, lenD_T2, its_T2, ixD_P0, ixD_P1, eqD_S]
  rfl
theorem t_lparts : t__law_parts base ours theirs = M.ret (partsT base ours theirs) := by
  have kl := keptT_len (ours := ours) (theirs := theirs) hb
  unfold t__law_parts
  rw [t_lkept hb ho ht, q_bind_ret, q_bind_ret, q_bind_ret, catM_eq (by simp; omega), q_bind_ret]
  refine bind_to (pf_loop (base := base) (ours := ours) (theirs := theirs) (fun s => (s.1 + 1, s.2.1 + 1, s.2.2 + 1)) id (fun _ => rfl) (fun x st s hs => ?_) _ [] (-1, -1, -1) (by simp; omega)) fun r hr => by rw [hr]; rfl
  simp only [appM_eq (show st.length < 16777216 by omega), q_bind_ret, q_bind_fail, q_bind_exn, q_noex_ret, q_ofO_some, q_ofO_none, andM_t, andM_f, orM_t, orM_f, ite_ret, notM_ret, andM_rr, orM_rr, lpK_inl, lpK_inr, forS_nil, forC_nil, Bool.not_true, Bool.not_false, Bool.true_and, Bool.false_and, Bool.and_true, Bool.and_false, Bool.true_or, Bool.false_or, Bool.or_false, Bool.or_true, Bool.not_not, List.length_map, M.bind_ret, decide_true, decide_false, reduceIte, Bool.false_eq_true, DD.str_inj, String.reduceEq, Option.isSome_some, Option.isSome_none, its_T, asS_S, asI_I, isi_T, isi_T2, isi_S, isi_I, isi_Ib, isi_St, isi_It, isi_Nt, isi_Ns, isi_Is, isi_Si, isi_Bi, isi_Bb, isi_L, lenD_T, lenD_T2, its_T2, ixD_P0, ixD_P1, eqD_S]
  rfl
/-- each part is short -/
theorem parts_short : ∀ p ∈ partsT base ours theirs, p.2.1.length ≤ 20 ∧ p.2.2.length ≤ 20 := by
  intro p hp
  have := partsF_sub hp
  omega
theorem chos_short (side : Int) : ∀ r ∈ (partsT base ours theirs).map (chosS side), r.length ≤ 20 := by
  intro r hr
  obtain ⟨p, hp, rfl⟩ := List.mem_map.mp hr
  obtain ⟨a, b⟩ := parts_short hb ho ht p hp
  exact chos_len a b
omit hb ho ht in
theorem kept_bnd : ∀ k ∈ keptT base ours theirs, (0 ≤ k.1 ∧ k.1 < base.length) ∧ (0 ≤ k.2.1 ∧ k.2.1 < ours.length) ∧ 0 ≤ k.2.2 ∧ k.2.2 < theirs.length := by
  intro k hk
  obtain ⟨h1, h2⟩ := kept_mem.mp hk
  have b1 := al_bound _ base ours 0 0 (Nat.le_refl _) _ h1
  have b2 := al_bound _ base theirs 0 0 (Nat.le_refl _) _ h2
  simp only [Int.zero_add] at b1 b2
  exact ⟨⟨b1.1, b1.2.1⟩, ⟨b1.2.2.1, b1.2.2.2⟩, b2.2.2.1, b2.2.2.2⟩
/-- the merged text, clashes from a side -/
def mrgL (side : Int) (base ours theirs : List Str) : List Str := pre base (keptT base ours theirs) ((partsT base ours theirs).map (chosS side)) ((partsT base ours theirs).map (chosS side)).length
theorem t_lmerged {side : Int} (hs : side = 1 ∨ side = 2) : t__law_merged base ours theirs side = M.ret (mrgL side base ours theirs) := by
  have kl := keptT_len (ours := ours) (theirs := theirs) hb
  have pl := partsT_len (base := base) (ours := ours) (theirs := theirs)
  have cs := chos_short hb ho ht side
  unfold t__law_merged
  rw [t_lkept hb ho ht, q_bind_ret, t_lparts hb ho ht, q_bind_ret, q_bind_ret, rng1_eq (n := (partsT base ours theirs).length) (by omega), q_bind_ret, forS_to ([] : List Str) (pre base (keptT base ours theirs) ((partsT base ours theirs).map (chosS side))) _ rfl]
  · rw [q_bind_ret, rngL_length]
    unfold mrgL
    rw [List.length_map]
  · intro k x hx
    obtain ⟨hk, rfl⟩ := rngL_get hx
    rw [Int.zero_add]
    have e0 : (partsT base ours theirs)[k]? = some (partsT base ours theirs)[k] := List.getElem?_eq_getElem hk
    have e1 : ((partsT base ours theirs).map (chosS side))[k]? = some (chosS side (partsT base ours theirs)[k]) := by rw [List.getElem?_map, e0]; rfl
    have p1 := pre_len (base := base) (kept := keptT base ours theirs) cs k
    have c1 := cs _ (List.mem_of_getElem? e1)
    rw [pre_succ]
    unfold piece
    rw [e1]
    simp only [ixM_eq e0, t_chos _ hs, q_bind_ret, q_bind_fail, q_bind_exn, q_noex_ret, q_ofO_some, q_ofO_none, andM_t, andM_f, orM_t, orM_f, ite_ret, notM_ret, andM_rr, orM_rr, lpK_inl, lpK_inr, forS_nil, forC_nil, Bool.not_true, Bool.not_false, Bool.true_and, Bool.false_and, Bool.and_true, Bool.and_false, Bool.true_or, Bool.false_or, Bool.or_false, Bool.or_true, Bool.not_not, List.length_map, M.bind_ret, decide_true, decide_false, reduceIte, Bool.false_eq_true, DD.str_inj, String.reduceEq, Option.isSome_some, Option.isSome_none, its_T, asS_S, asI_I, isi_T, isi_T2, isi_S, isi_I, isi_Ib, isi_St, isi_It, isi_Nt, isi_Ns, isi_Is, isi_Si, isi_Bi, isi_Bb, isi_L, lenD_T, lenD_T2, its_T2, ixD_P0, ixD_P1, eqD_S]
    rw [catM_eq (by omega)]
    by_cases c : k < (keptT base ours theirs).length
    · have e2 : (keptT base ours theirs)[k]? = some (keptT base ours theirs)[k] := List.getElem?_eq_getElem c
      obtain ⟨⟨b0, b1⟩, _⟩ := kept_bnd _ (List.getElem_mem c)
      obtain ⟨q, hq⟩ := Int.eq_ofNat_of_zero_le b0
      have e3 : base[q]? = some (lineAt base (keptT base ours theirs)[k]) := by
        unfold lineAt
        rw [hq, Int.toNat_natCast, List.getElem?_eq_getElem (by omega)]
        rfl
      simp only [decide_eq_true (show ((k : Nat) : Int) < (((keptT base ours theirs).length : Nat) : Int) by omega), ixM_eq e2, hq, ixM_eq e3, q_bind_ret, q_bind_fail, q_bind_exn, q_noex_ret, q_ofO_some, q_ofO_none, andM_t, andM_f, orM_t, orM_f, ite_ret, notM_ret, andM_rr, orM_rr, lpK_inl, lpK_inr, forS_nil, forC_nil, Bool.not_true, Bool.not_false, Bool.true_and, Bool.false_and, Bool.and_true, Bool.and_false, Bool.true_or, Bool.false_or, Bool.or_false, Bool.or_true, Bool.not_not, List.length_map, M.bind_ret, decide_true, decide_false, reduceIte, Bool.false_eq_true, DD.str_inj, String.reduceEq, Option.isSome_some, Option.isSome_none, its_T, asS_S, asI_I, isi_T, isi_T2, isi_S, isi_I, isi_Ib, isi_St, isi_It, isi_Nt, isi_Ns, isi_Is, isi_Si, isi_Bi, isi_Bb, isi_L, lenD_T, lenD_T2, its_T2, ixD_P0, ixD_P1, eqD_S]
      rw [catM_eq (by simp; omega), e2]
      simp
    · have e2 : (keptT base ours theirs)[k]? = none := List.getElem?_eq_none (by omega)
      simp only [decide_eq_false (show ¬ ((k : Nat) : Int) < (((keptT base ours theirs).length : Nat) : Int) by omega), e2, q_bind_ret, q_bind_fail, q_bind_exn, q_noex_ret, q_ofO_some, q_ofO_none, andM_t, andM_f, orM_t, orM_f, ite_ret, notM_ret, andM_rr, orM_rr, lpK_inl, lpK_inr, forS_nil, forC_nil, Bool.not_true, Bool.not_false, Bool.true_and, Bool.false_and, Bool.and_true, Bool.and_false, Bool.true_or, Bool.false_or, Bool.or_false, Bool.or_true, Bool.not_not, List.length_map, M.bind_ret, decide_true, decide_false, reduceIte, Bool.false_eq_true, DD.str_inj, String.reduceEq, Option.isSome_some, Option.isSome_none, its_T, asS_S, asI_I, isi_T, isi_T2, isi_S, isi_I, isi_Ib, isi_St, isi_It, isi_Nt, isi_Ns, isi_Is, isi_Si, isi_Bi, isi_Bb, isi_L, lenD_T, lenD_T2, its_T2, ixD_P0, ixD_P1, eqD_S]
      simp
/-! merge -/
def clsL (base ours theirs : List Str) : List PP := (partsT base ours theirs).filter clashB
abbrev eC : Str × List PP → D := eP D.str (eT (eP3 (eT D.str) (eT D.str) (eT D.str)))
abbrev eG : Str × List Str → D := eP D.str (eT D.str)
def mrg (base ours theirs : List Str) : D := if 0 < (clsL base ours theirs).length then eC ("clash", clsL base ours theirs) else eG ("merged", mrgL 1 base ours theirs)
omit hb ho ht in
theorem mg_loop {f : PP → List (Option (List Str)) × List PP → M JS (List (Option (List Str)) × List PP)} (hf : ∀ x r c, r.length < 1000 → c.length < 1000 → f x (r, c) = M.ret (r ++ [mp x], if clashB x = true then c ++ [x] else c)) : ∀ (ps : List PP) (r : List (Option (List Str))) (c : List PP), r.length + ps.length ≤ 1000 → c.length + ps.length ≤ 1000 → forS f ps (r, c) = M.ret (r ++ ps.map mp, c ++ ps.filter clashB)
  | [], r, c, _, _ => by rw [forS_nil]; simp
  | p :: ps, r, c, h1, h2 => by
    rw [List.length_cons] at h1 h2
    have z : (if clashB p = true then c ++ [p] else c).length ≤ c.length + 1 := by split <;> simp
    rw [forS_cons, hf p r c (by omega) (by omega), q_bind_ret, mg_loop hf ps _ _ (by simp; omega) (by omega), List.filter_cons]
    by_cases q : clashB p = true
    · rw [if_pos q, if_pos q]; simp
    · rw [if_neg q, if_neg q]; simp
omit hb ho ht in
theorem mp_none (p : PP) : (mp p).isNone = clashB p := by unfold mp; cases clashB p <;> rfl
theorem t_chk3 : t_check_three base ours theirs = M.ret () := by
  unfold t_check_three
  rw [ct_ok _ hb, q_bind_ret, ct_ok _ ho, q_bind_ret, ct_ok _ ht, q_bind_ret]
theorem t_mrg : t_merge base ours theirs = M.ret (mrg base ours theirs) := by
  have kl := keptT_len (ours := ours) (theirs := theirs) hb
  have pl := partsT_len (base := base) (ours := ours) (theirs := theirs)
  unfold t_merge
  rw [t_chk3 hb ho ht, q_bind_ret, q_bind_ret, q_bind_ret, t_str hb ho ht, q_bind_ret, mg_loop (fun x r c h1 h2 => ?_) _ [] [] (by simp; omega) (by simp; omega), q_bind_ret]
  · rw [List.nil_append, List.nil_append]
    show (if decide ((0 : Int) < (((clsL base ours theirs).length : Nat) : Int)) = true then _ else _) = _
    unfold mrg
    by_cases c : 0 < (clsL base ours theirs).length
    · rw [decide_eq_true (by omega), if_pos rfl, if_pos c]
      rfl
    · rw [decide_eq_false (by omega), if_neg (by decide), if_neg c]
      have hm : (partsT base ours theirs).map mp = ((partsT base ours theirs).map (chosS 1)).map some := by
        rw [List.map_map]
        apply List.map_congr_left
        intro p hp
        have : clashB p = false := by
          cases q : clashB p with
          | false => rfl
          | true =>
            have := List.length_pos_of_mem (List.mem_filter.mpr ⟨hp, q⟩ : p ∈ clsL base ours theirs)
            exact (c this).elim
        show mp p = some (chosS 1 p)
        unfold mp
        rw [this]
        rfl
      have ej := t_join (base := base) (kept := keptT base ours theirs) (rs := (partsT base ours theirs).map (chosS 1)) (fun k hk => (kept_bnd k hk).1) (chos_short hb ho ht 1) (by rw [List.length_map]; omega)
      rw [hm]
      simp only [t_kept hb ho ht, ej, q_bind_ret, q_bind_fail, q_bind_exn, q_noex_ret, q_ofO_some, q_ofO_none, andM_t, andM_f, orM_t, orM_f, ite_ret, notM_ret, andM_rr, orM_rr, lpK_inl, lpK_inr, forS_nil, forC_nil, Bool.not_true, Bool.not_false, Bool.true_and, Bool.false_and, Bool.and_true, Bool.and_false, Bool.true_or, Bool.false_or, Bool.or_false, Bool.or_true, Bool.not_not, List.length_map, M.bind_ret, decide_true, decide_false, reduceIte, Bool.false_eq_true, DD.str_inj, String.reduceEq, Option.isSome_some, Option.isSome_none, its_T, asS_S, asI_I, isi_T, isi_T2, isi_S, isi_I, isi_Ib, isi_St, isi_It, isi_Nt, isi_Ns, isi_Is, isi_Si, isi_Bi, isi_Bb, isi_L, lenD_T, lenD_T2, its_T2, ixD_P0, ixD_P1, eqD_S]
      unfold mrgL
      rw [List.length_map]
  · simp only [t_mpart, mp_none, appM_eq (show r.length < 16777216 by omega), appM_eq (show c.length < 16777216 by omega), q_bind_ret, q_bind_fail, q_bind_exn, q_noex_ret, q_ofO_some, q_ofO_none, andM_t, andM_f, orM_t, orM_f, ite_ret, notM_ret, andM_rr, orM_rr, lpK_inl, lpK_inr, forS_nil, forC_nil, Bool.not_true, Bool.not_false, Bool.true_and, Bool.false_and, Bool.and_true, Bool.and_false, Bool.true_or, Bool.false_or, Bool.or_false, Bool.or_true, Bool.not_not, List.length_map, M.bind_ret, decide_true, decide_false, reduceIte, Bool.false_eq_true, DD.str_inj, String.reduceEq, Option.isSome_some, Option.isSome_none, its_T, asS_S, asI_I, isi_T, isi_T2, isi_S, isi_I, isi_Ib, isi_St, isi_It, isi_Nt, isi_Ns, isi_Is, isi_Si, isi_Bi, isi_Bb, isi_L, lenD_T, lenD_T2, its_T2, ixD_P0, ixD_P1, eqD_S]
    cases clashB x <;> rfl
end
end HD
namespace HD
open PySem DD
/-! the sides exchanged -/
theorem kept_swapT (base ours theirs : List Str) : keptT base theirs ours = (keptT base ours theirs).map swR := kept_swap (al_upT _ _) (al_upT _ _)
theorem parts_swap (base ours theirs : List Str) : partsT base theirs ours = (partsT base ours theirs).map swP := by
  have h := partsF_swap base ours theirs (0, 0, 0) (keptT base ours theirs ++ [endT base ours theirs])
  unfold partsT
  rw [kept_swapT, ← h, List.map_append]
  rfl
theorem cls_swap (base ours theirs : List Str) : clsL base theirs ours = (clsL base ours theirs).map swP := by
  unfold clsL
  rw [parts_swap, List.filter_map]
  congr 1
  apply List.filter_congr
  intro p _
  exact clash_swap p
theorem no_clash {base ours theirs : List Str} (h : ¬ 0 < (clsL base ours theirs).length) : ∀ p ∈ partsT base ours theirs, clashB p = false := by
  intro p hp
  cases q : clashB p with
  | false => rfl
  | true => exact (h (List.length_pos_of_mem (List.mem_filter.mpr ⟨hp, q⟩ : p ∈ clsL base ours theirs))).elim
theorem mrgL_swap {base ours theirs : List Str} (h : ∀ p ∈ partsT base ours theirs, clashB p = false) (s s' : Int) : mrgL s base theirs ours = mrgL s' base ours theirs := by
  unfold mrgL
  have e : (partsT base theirs ours).map (chosS s) = (partsT base ours theirs).map (chosS s') := by
    rw [parts_swap, List.map_map]
    exact List.map_congr_left fun p hp => chos_swap (h p hp) s s'
  rw [e, pre_join, pre_join, kept_swapT, joinF_swap]
/-! a text told anew from its parts -/
theorem up_snd {A : List (Int × Int)} (h : Up A) {p q : Int × Int} (hp : p ∈ A) (hq : q ∈ A) (e : p.1 < q.1) : p.2 < q.2 := by
  induction A with
  | nil => cases hp
  | cons x A ih =>
    obtain ⟨p1, p2⟩ := List.pairwise_cons.mp h
    rcases List.mem_cons.mp hp with rfl | hp'
    · rcases List.mem_cons.mp hq with rfl | hq'
      · omega
      · exact (p1 q hq').2
    · rcases List.mem_cons.mp hq with rfl | hq'
      · have := (p1 p hp').1; omega
      · exact ih p2 hp' hq'
theorem cut_two {α : Type} (l : List α) (a b : Nat) (h1 : a ≤ b) (h2 : b ≤ l.length) : cutD l (some (a : Int)) (some (b : Int)) = (l.drop a).take (b - a) := by
  unfold cutD
  rw [HT.sIx_nat, HT.sIx_nat, Nat.min_eq_left h2, Nat.min_eq_left (Nat.le_trans h1 h2)]
theorem recon (base ours theirs : List Str) (e : R3) (he : e.2.2 = ((theirs.length : Nat) : Int)) : ∀ (K : List R3) (s : R3) (a : Nat), s.2.2 = (a : Int) → a ≤ theirs.length → K.Pairwise (fun p q => p.2.2 < q.2.2) → (∀ k ∈ K, (a : Int) ≤ k.2.2 ∧ k.2.2 < ((theirs.length : Nat) : Int) ∧ base[k.1.toNat]? = theirs[k.2.2.toNat]?) →
    joinF base K ((partsF base ours theirs s (K ++ [e])).map (·.2.2)) = theirs.drop a
  | [], s, a, hs, ha, _, _ => by
    show cutD theirs (some s.2.2) (some e.2.2) ++ [] = _
    rw [hs, he, cut_two _ _ _ ha (Nat.le_refl _), List.append_nil]
    exact List.take_of_length_le (by rw [List.length_drop]; omega)
  | k :: K, s, a, hs, ha, hp, hk => by
    obtain ⟨p1, p2⟩ := List.pairwise_cons.mp hp
    obtain ⟨k1, k2, k3⟩ := hk k List.mem_cons_self
    obtain ⟨b, hb⟩ := Int.eq_ofNat_of_zero_le (show 0 ≤ k.2.2 by omega)
    have hbl : b < theirs.length := by omega
    have ih := recon base ours theirs e he K (k.1 + 1, k.2.1 + 1, k.2.2 + 1) (b + 1) (by dsimp only; omega) (by omega) p2 fun q hq => ⟨by have := p1 q hq; omega, (hk q (List.mem_cons_of_mem _ hq)).2⟩
    show cutD theirs (some s.2.2) (some k.2.2) ++ lineAt base k :: joinF base K ((partsF base ours theirs (k.1 + 1, k.2.1 + 1, k.2.2 + 1) (K ++ [e])).map (·.2.2)) = _
    rw [ih, hs, hb, cut_two _ _ _ (by omega) (by omega)]
    unfold lineAt
    rw [k3, hb, Int.toNat_natCast, List.getElem?_eq_getElem hbl]
    show _ ++ theirs[b] :: _ = _
    rw [← List.drop_eq_getElem_cons hbl]
    have z := List.take_append_drop (b - a) (theirs.drop a)
    rw [List.drop_drop, show a + (b - a) = b by omega] at z
    exact z
theorem kept_third (base ours theirs : List Str) : (keptT base ours theirs).Pairwise fun p q => p.2.2 < q.2.2 := by
  refine List.Pairwise.imp_of_mem (fun {p q} hp hq h => ?_) (kept_up (al_upT base ours) (al_upT base theirs))
  exact up_snd (p := (p.1, p.2.2)) (q := (q.1, q.2.2)) (al_upT base theirs) (kept_mem.mp hp).2 (kept_mem.mp hq).2 h
theorem recon_T (base ours theirs : List Str) : joinF base (keptT base ours theirs) ((partsT base ours theirs).map (·.2.2)) = theirs := by
  unfold partsT
  rw [recon base ours theirs (endT base ours theirs) rfl (keptT base ours theirs) (0, 0, 0) 0 rfl (Nat.zero_le _) (kept_third base ours theirs) fun k hk => ?_]
  · rfl
  · obtain ⟨_, _, b1, b2⟩ := kept_bnd k hk
    have := al_line _ base theirs 0 0 (Nat.le_refl _) _ (kept_mem.mp hk).2
    dsimp only at this
    rw [Int.sub_zero, Int.sub_zero] at this
    exact ⟨b1, b2, this⟩
/-- where each part chooses the third -/
theorem mrg_third {base ours theirs : List Str} (h : ∀ p ∈ partsT base ours theirs, clashB p = false ∧ chosS 1 p = p.2.2) : mrg base ours theirs = eG ("merged", theirs) := by
  have c : clsL base ours theirs = [] := List.filter_eq_nil_iff.mpr fun p hp => by rw [(h p hp).1]; decide
  unfold mrg
  rw [c, if_neg (by decide)]
  unfold mrgL
  rw [pre_join, show (partsT base ours theirs).map (chosS 1) = (partsT base ours theirs).map (·.2.2) from List.map_congr_left fun p hp => (h p hp).2, recon_T]
/-- two columns alike -/
theorem parts_12 {base theirs : List Str} : ∀ {s : R3} {rs : List R3}, s.2.1 = s.1 → (∀ r ∈ rs, r.2.1 = r.1) → ∀ p ∈ partsF base base theirs s rs, p.2.1 = p.1
  | s, [], _, _, p, hp => by cases hp
  | s, r :: rs, hs, hr, p, hp => by
    have h1 := hr r List.mem_cons_self
    rcases List.mem_cons.mp hp with rfl | hp
    · show cutD base (some s.2.1) (some r.2.1) = cutD base (some s.1) (some r.1)
      rw [hs, h1]
    · exact parts_12 (s := (r.1 + 1, r.2.1 + 1, r.2.2 + 1)) (by dsimp only; rw [h1]) (fun q hq => hr q (List.mem_cons_of_mem _ hq)) p hp
theorem parts_23 {base theirs : List Str} : ∀ {s : R3} {rs : List R3}, s.2.1 = s.2.2 → (∀ r ∈ rs, r.2.1 = r.2.2) → ∀ p ∈ partsF base theirs theirs s rs, p.2.1 = p.2.2
  | s, [], _, _, p, hp => by cases hp
  | s, r :: rs, hs, hr, p, hp => by
    have h1 := hr r List.mem_cons_self
    rcases List.mem_cons.mp hp with rfl | hp
    · show cutD theirs (some s.2.1) (some r.2.1) = cutD theirs (some s.2.2) (some r.2.2)
      rw [hs, h1]
    · exact parts_23 (s := (r.1 + 1, r.2.1 + 1, r.2.2 + 1)) (by dsimp only; rw [h1]) (fun q hq => hr q (List.mem_cons_of_mem _ hq)) p hp
theorem p_12 (base theirs : List Str) : ∀ p ∈ partsT base base theirs, clashB p = false ∧ chosS 1 p = p.2.2 := by
  intro p hp
  have h : p.2.1 = p.1 := by
    refine parts_12 (s := (0, 0, 0)) rfl (fun r hr => ?_) p hp
    rcases List.mem_append.mp hr with hr | hr
    · exact ((al_self base 0 _).mp (kept_mem.mp hr).1).1.symm
    · rw [List.mem_singleton.mp hr]; rfl
  unfold clashB chosS
  rw [decide_eq_true h, if_pos h]
  exact ⟨rfl, rfl⟩
theorem mrg_b_b (base theirs : List Str) : mrg base base theirs = eG ("merged", theirs) := mrg_third (p_12 base theirs)
theorem mrg_b_o (base ours : List Str) : mrg base ours base = eG ("merged", ours) := by
  have c : ¬ 0 < (clsL base base ours).length := by
    have : clsL base base ours = [] := List.filter_eq_nil_iff.mpr fun p hp => by rw [(p_12 base ours p hp).1]; decide
    rw [this]; decide
  have h := mrg_b_b base ours
  unfold mrg at h ⊢
  rw [if_neg c] at h
  rw [cls_swap, List.length_map, if_neg c, mrgL_swap (no_clash c) 1 1]
  exact h
theorem mrg_t_t (base theirs : List Str) : mrg base theirs theirs = eG ("merged", theirs) := by
  refine mrg_third fun p hp => ?_
  have h : p.2.1 = p.2.2 := by
    refine parts_23 (s := (0, 0, 0)) rfl (fun r hr => ?_) p hp
    rcases List.mem_append.mp hr with hr | hr
    · have := key_inj (·.1) ((al_upT base theirs).imp fun h => h.1) (kept_mem.mp hr).1 (kept_mem.mp hr).2 rfl
      exact (Prod.mk.inj this).2
    · rw [List.mem_singleton.mp hr]; rfl
  unfold clashB chosS
  rw [decide_eq_true h]
  refine ⟨by cases decide (p.2.1 = p.1) <;> cases decide (p.2.2 = p.1) <;> rfl, ?_⟩
  split
  · rfl
  · rw [if_pos (Or.inr h), h]
/-! what is told is small -/
theorem sm_strs (n : Nat) (l : List Str) (h : l.length ≤ 16777216) : smD (n + 2) (eT D.str l) := ⟨by rw [List.length_map]; exact h, fun d hd => by obtain ⟨x, _, rfl⟩ := List.mem_map.mp hd; trivial⟩
theorem sm_G {l : List Str} (h : l.length ≤ 16777216) : smD 8 (eG ("merged", l)) := ⟨by simp, fun z hz => by
  simp only [List.mem_cons, List.not_mem_nil, or_false] at hz
  rcases hz with rfl | rfl
  · trivial
  · exact sm_strs 5 l h⟩
theorem sm_C {l : List PP} (h : l.length ≤ 16777216) (hp : ∀ p ∈ l, p.1.length ≤ 20 ∧ p.2.1.length ≤ 20 ∧ p.2.2.length ≤ 20) : smD 8 (eC ("clash", l)) := ⟨by simp, fun z hz => by
  simp only [List.mem_cons, List.not_mem_nil, or_false] at hz
  rcases hz with rfl | rfl
  · trivial
  · refine ⟨by rw [List.length_map]; exact h, fun d hd => ?_⟩
    obtain ⟨p, hpl, rfl⟩ := List.mem_map.mp hd
    obtain ⟨a, b, c⟩ := hp p hpl
    refine ⟨by simp, fun z hz => ?_⟩
    simp only [List.mem_cons, List.not_mem_nil, or_false] at hz
    rcases hz with rfl | rfl | rfl
    · exact sm_strs 3 _ (by omega)
    · exact sm_strs 3 _ (by omega)
    · exact sm_strs 3 _ (by omega)⟩
section
variable {base ours theirs : List Str} (hb : base.length ≤ 20) (ho : ours.length ≤ 20) (ht : theirs.length ≤ 20)
include hb ho ht
theorem mrgL_len (side : Int) : (mrgL side base ours theirs).length ≤ 10000 := by
  have kl := keptT_len (ours := ours) (theirs := theirs) hb
  have pl := partsT_len (base := base) (ours := ours) (theirs := theirs)
  have := pre_len (base := base) (kept := keptT base ours theirs) (chos_short hb ho ht side) ((partsT base ours theirs).map (chosS side)).length
  rw [List.length_map] at this
  unfold mrgL
  rw [List.length_map]
  omega
theorem cls_len : (clsL base ours theirs).length ≤ 401 := by
  have kl := keptT_len (ours := ours) (theirs := theirs) hb
  have pl := partsT_len (base := base) (ours := ours) (theirs := theirs)
  have := List.length_filter_le clashB (partsT base ours theirs)
  unfold clsL
  omega
theorem sm_mrg : smD 8 (mrg base ours theirs) := by
  have := mrgL_len hb ho ht 1
  have := cls_len hb ho ht
  unfold mrg
  split
  · exact sm_C (by omega) fun p hp => by
      have := partsF_sub (List.mem_filter.mp hp).1
      omega
  · exact sm_G (by omega)
end
end HD
namespace HD
open PySem DD
/-! clauses -/
theorem try_ret {α γ : Type} (cl : List (Str × HR)) (a : α) (h : D → M JS γ) (k : M JS γ) : tryM cl (M.ret a) h k = k := rfl
theorem try_exn {α γ : Type} {cl : List (Str × HR)} {c : Str} {fs : List (Str × D)} {d : D} (h : D → M JS γ) (k : M JS γ) (e : exVal cl c fs = some d) : tryM cl (M.exn c fs : M JS α) h k = h d := by
  funext s
  show (match exVal cl c fs with | some d => h d s | none => .bad) = _
  rw [e]
abbrev clV : List (Str × HR) := [("BadRow", .two "table" "index"), ("TooMany", .two "what" "limit")]
theorem ex_bad (t : Str) (i : Int) : exVal clV "BadRow" [("index", D.int i), ("table", D.str t)] = some (.tup [.str t, .int i]) := by
  unfold exVal hrOf HR.val
  rw [if_pos rfl]
  have h1 : ((Str.ofString "table" : Str) == Str.ofString "index") = false := by decide +kernel
  simp only [Option.bind_some, List.lookup_cons, h1, beq_self_eq_true, Option.map_some]
  rfl
theorem ex_many (t : Str) (i : Int) : exVal clV "TooMany" [("limit", D.int i), ("what", D.str t)] = some (.tup [.str t, .int i]) := by
  unfold exVal hrOf hrOf HR.val
  have h0 : ¬ ((Str.ofString "BadRow" : Str) = Str.ofString "TooMany") := by decide +kernel
  rw [if_neg h0, if_pos rfl]
  have h1 : ((Str.ofString "what" : Str) == Str.ofString "limit") = false := by decide +kernel
  simp only [Option.bind_some, List.lookup_cons, h1, beq_self_eq_true, Option.map_some]
  rfl
abbrev eSI : Str × Int → D := eP D.str D.int
theorem neD_SI (x y : Str × Int) : (neD (eSI x) (eSI y) : M JS Bool) = M.ret (!decide (x = y)) := by
  have c : Cm eSI 1 := cm_P cm_str cm_int
  unfold neD
  rw [c.cmp (by decide), c.cmp (by decide), if_pos (by rfl), c.eqv]
  rfl
theorem neD_S (x y : Str) : (neD (.str x) (.str y) : M JS Bool) = M.ret (!decide (x = y)) := by
  have c : Cm D.str 0 := cm_str
  unfold neD
  rw [c.cmp (by decide), c.cmp (by decide), if_pos (by rfl), c.eqv]
  rfl
theorem eqD_SI (x y : Str × Int) : (eqD (eSI x) (eSI y) : M JS Bool) = M.ret (decide (x = y)) := eqD_Cm (cm_P cm_str cm_int) x y
theorem n1 (x : Str × Int) : (neD (eSI x) (eP D.str D.int x) : M JS Bool) = M.ret false := by
  show (neD (eSI x) (eSI x) : M JS Bool) = _
  rw [neD_SI, decide_eq_true rfl]; rfl
theorem q1 (x : Str × Int) : (eqD (eSI x) (eP D.str D.int x) : M JS Bool) = M.ret true := by
  show (eqD (eSI x) (eSI x) : M JS Bool) = _
  rw [eqD_SI, decide_eq_true rfl]
/-! the errors of three texts -/
theorem ct_many (t : Str) {l : List Str} (h : 20 < l.length) : t_check_text t l = M.exn "TooMany" [("limit", D.int 20), ("what", D.str t)] := by
  unfold t_check_text
  simp only [decide_eq_true (show (20 : Int) < ((l.length : Nat) : Int) by omega), q_bind_ret, q_bind_fail, q_bind_exn, q_noex_ret, q_ofO_some, q_ofO_none, andM_t, andM_f, orM_t, orM_f, ite_ret, notM_ret, andM_rr, orM_rr, lpK_inl, lpK_inr, forS_nil, forC_nil, Bool.not_true, Bool.not_false, Bool.true_and, Bool.false_and, Bool.and_true, Bool.and_false, Bool.true_or, Bool.false_or, Bool.or_false, Bool.or_true, Bool.not_not, List.length_map, M.bind_ret, decide_true, decide_false, reduceIte, Bool.false_eq_true, DD.str_inj, String.reduceEq, Option.isSome_some, Option.isSome_none, its_T, asS_S, asI_I, isi_T, isi_T2, isi_S, isi_I, isi_Ib, isi_St, isi_It, isi_Nt, isi_Ns, isi_Is, isi_Si, isi_Bi, isi_Bb, isi_L, lenD_T, lenD_T2, its_T2, ixD_P0, ixD_P1, eqD_S]
theorem isi_L2 (l : List D) : (isiD (.lst l) "tuple" : M JS Bool) = M.ret false := rfl
theorem ctD_list (t : Str) (l : List D) : t_check_text_D t (.lst l) = M.exn "BadRow" [("index", D.int (-1)), ("table", D.str t)] := by
  unfold t_check_text_D
  simp only [isi_L2, q_bind_ret, q_bind_fail, q_bind_exn, q_noex_ret, q_ofO_some, q_ofO_none, andM_t, andM_f, orM_t, orM_f, ite_ret, notM_ret, andM_rr, orM_rr, lpK_inl, lpK_inr, forS_nil, forC_nil, Bool.not_true, Bool.not_false, Bool.true_and, Bool.false_and, Bool.and_true, Bool.and_false, Bool.true_or, Bool.false_or, Bool.or_false, Bool.or_true, Bool.not_not, List.length_map, M.bind_ret, decide_true, decide_false, reduceIte, Bool.false_eq_true, DD.str_inj, String.reduceEq, Option.isSome_some, Option.isSome_none, its_T, asS_S, asI_I, isi_T, isi_T2, isi_S, isi_I, isi_Ib, isi_St, isi_It, isi_Nt, isi_Ns, isi_Is, isi_Si, isi_Bi, isi_Bb, isi_L, lenD_T, lenD_T2, its_T2, ixD_P0, ixD_P1, eqD_S]
theorem ctD_ok (t : Str) {l : List Str} (h : l.length ≤ 20) : t_check_text_D t (eT D.str l) = M.ret () := by
  unfold t_check_text_D
  simp only [decide_eq_false (show ¬ (20 : Int) < ((l.length : Nat) : Int) by omega), q_bind_ret, q_bind_fail, q_bind_exn, q_noex_ret, q_ofO_some, q_ofO_none, andM_t, andM_f, orM_t, orM_f, ite_ret, notM_ret, andM_rr, orM_rr, lpK_inl, lpK_inr, forS_nil, forC_nil, Bool.not_true, Bool.not_false, Bool.true_and, Bool.false_and, Bool.and_true, Bool.and_false, Bool.true_or, Bool.false_or, Bool.or_false, Bool.or_true, Bool.not_not, List.length_map, M.bind_ret, decide_true, decide_false, reduceIte, Bool.false_eq_true, DD.str_inj, String.reduceEq, Option.isSome_some, Option.isSome_none, its_T, asS_S, asI_I, isi_T, isi_T2, isi_S, isi_I, isi_Ib, isi_St, isi_It, isi_Nt, isi_Ns, isi_Is, isi_Si, isi_Bi, isi_Bb, isi_L, lenD_T, lenD_T2, its_T2, ixD_P0, ixD_P1, eqD_S]
  rw [forS_unit]
  · rfl
  · intro x hx
    obtain ⟨k, hk⟩ := List.mem_iff_getElem?.mp hx
    obtain ⟨z, hz, rfl⟩ := enumL_get hk
    rw [List.getElem?_map] at hz
    obtain ⟨s, _, rfl⟩ := Option.map_eq_some_iff.mp hz
    simp only [q_bind_ret, q_bind_fail, q_bind_exn, q_noex_ret, q_ofO_some, q_ofO_none, andM_t, andM_f, orM_t, orM_f, ite_ret, notM_ret, andM_rr, orM_rr, lpK_inl, lpK_inr, forS_nil, forC_nil, Bool.not_true, Bool.not_false, Bool.true_and, Bool.false_and, Bool.and_true, Bool.and_false, Bool.true_or, Bool.false_or, Bool.or_false, Bool.or_true, Bool.not_not, List.length_map, M.bind_ret, decide_true, decide_false, reduceIte, Bool.false_eq_true, DD.str_inj, String.reduceEq, Option.isSome_some, Option.isSome_none, its_T, asS_S, asI_I, isi_T, isi_T2, isi_S, isi_I, isi_Ib, isi_St, isi_It, isi_Nt, isi_Ns, isi_Is, isi_Si, isi_Bi, isi_Bb, isi_L, lenD_T, lenD_T2, its_T2, ixD_P0, ixD_P1, eqD_S]
theorem ctD_bad (t : Str) {A : List D} {d : D} (hA : ∀ d ∈ A, ∃ s, d = .str s) (hl : A.length < 20) (hd : (isiD d "str" : M JS Bool) = M.ret false) : t_check_text_D t (.tup (A ++ [d])) = M.exn "BadRow" [("index", D.int A.length), ("table", D.str t)] := by
  unfold t_check_text_D
  simp only [decide_eq_false (show ¬ (20 : Int) < (((A ++ [d]).length : Nat) : Int) by simp; omega), q_bind_ret, q_bind_fail, q_bind_exn, q_noex_ret, q_ofO_some, q_ofO_none, andM_t, andM_f, orM_t, orM_f, ite_ret, notM_ret, andM_rr, orM_rr, lpK_inl, lpK_inr, forS_nil, forC_nil, Bool.not_true, Bool.not_false, Bool.true_and, Bool.false_and, Bool.and_true, Bool.and_false, Bool.true_or, Bool.false_or, Bool.or_false, Bool.or_true, Bool.not_not, List.length_map, M.bind_ret, decide_true, decide_false, reduceIte, Bool.false_eq_true, DD.str_inj, String.reduceEq, Option.isSome_some, Option.isSome_none, its_T, asS_S, asI_I, isi_T, isi_T2, isi_S, isi_I, isi_Ib, isi_St, isi_It, isi_Nt, isi_Ns, isi_Is, isi_Si, isi_Bi, isi_Bb, isi_L, lenD_T, lenD_T2, its_T2, ixD_P0, ixD_P1, eqD_S]
  rw [forS_first (j := A.length) (y := ((A.length : Int), d)) (c := "BadRow") (fs := [("index", D.int A.length), ("table", D.str t)])]
  · rfl
  · unfold enumL
    rw [List.getElem?_mapIdx, List.getElem?_append_right (by omega), Nat.sub_self]
    rfl
  · intro i x hi hx
    obtain ⟨z, hz, rfl⟩ := enumL_get hx
    rw [List.getElem?_append_left hi] at hz
    obtain ⟨s, rfl⟩ := hA z (List.mem_of_getElem? hz)
    simp only [q_bind_ret, q_bind_fail, q_bind_exn, q_noex_ret, q_ofO_some, q_ofO_none, andM_t, andM_f, orM_t, orM_f, ite_ret, notM_ret, andM_rr, orM_rr, lpK_inl, lpK_inr, forS_nil, forC_nil, Bool.not_true, Bool.not_false, Bool.true_and, Bool.false_and, Bool.and_true, Bool.and_false, Bool.true_or, Bool.false_or, Bool.or_false, Bool.or_true, Bool.not_not, List.length_map, M.bind_ret, decide_true, decide_false, reduceIte, Bool.false_eq_true, DD.str_inj, String.reduceEq, Option.isSome_some, Option.isSome_none, its_T, asS_S, asI_I, isi_T, isi_T2, isi_S, isi_I, isi_Ib, isi_St, isi_It, isi_Nt, isi_Ns, isi_Is, isi_Si, isi_Bi, isi_Bb, isi_L, lenD_T, lenD_T2, its_T2, ixD_P0, ixD_P1, eqD_S]
  · simp only [hd, q_bind_ret, q_bind_fail, q_bind_exn, q_noex_ret, q_ofO_some, q_ofO_none, andM_t, andM_f, orM_t, orM_f, ite_ret, notM_ret, andM_rr, orM_rr, lpK_inl, lpK_inr, forS_nil, forC_nil, Bool.not_true, Bool.not_false, Bool.true_and, Bool.false_and, Bool.and_true, Bool.and_false, Bool.true_or, Bool.false_or, Bool.or_false, Bool.or_true, Bool.not_not, List.length_map, M.bind_ret, decide_true, decide_false, reduceIte, Bool.false_eq_true, DD.str_inj, String.reduceEq, Option.isSome_some, Option.isSome_none, its_T, asS_S, asI_I, isi_T, isi_T2, isi_S, isi_I, isi_Ib, isi_St, isi_It, isi_Nt, isi_Ns, isi_Is, isi_Si, isi_Bi, isi_Bb, isi_L, lenD_T, lenD_T2, its_T2, ixD_P0, ixD_P1, eqD_S]
theorem ref_D {b o t : D} {c : Str} {i : Int} (h : t_check_three_D b o t = M.exn "BadRow" [("index", D.int i), ("table", D.str c)]) : t__law_refused_D b o t = M.ret (eSI (c, i)) := by
  unfold t__law_refused_D t_merge_for_D
  rw [h, q_bind_exn]
  exact try_exn _ _ (ex_bad c i)
/-! merge_for -/
theorem clash_chos {p : PP} (h : clashB p = true) (side : Int) : chosS side p = if side = 1 then p.2.1 else p.2.2 := by
  unfold clashB at h
  simp only [Bool.and_eq_true, Bool.not_eq_true', decide_eq_false_iff_not] at h
  obtain ⟨h1, h2, h3⟩ := h
  unfold chosS
  rw [if_neg h1, if_neg (fun z => z.elim h2 h3)]
theorem free_chos {p : PP} (h : clashB p = false) (side side' : Int) : chosS side p = chosS side' p := by
  unfold clashB at h
  unfold chosS
  by_cases c1 : p.2.1 = p.1
  · rw [if_pos c1, if_pos c1]
  · by_cases c2 : p.2.2 = p.1
    · rw [if_neg c1, if_neg c1, if_pos (Or.inl c2), if_pos (Or.inl c2)]
    · by_cases c3 : p.2.1 = p.2.2
      · rw [if_neg c1, if_neg c1, if_pos (Or.inr c3), if_pos (Or.inr c3)]
      · rw [decide_eq_false c1, decide_eq_false c2, decide_eq_false c3] at h
        cases h
section
variable {base ours theirs : List Str} (hb : base.length ≤ 20) (ho : ours.length ≤ 20) (ht : theirs.length ≤ 20)
include hb ho ht
theorem t_mfor {sd : Str} {side : Int} (hs : (decide (sd = "theirs") = false ∧ side = 1) ∨ (decide (sd = "theirs") = true ∧ side = 2)) : t_merge_for base ours theirs sd = M.ret (mrgL side base ours theirs) := by
  have kl := keptT_len (ours := ours) (theirs := theirs) hb
  have pl := partsT_len (base := base) (ours := ours) (theirs := theirs)
  unfold t_merge_for
  rw [t_chk3 hb ho ht, q_bind_ret, q_bind_ret, t_str hb ho ht, q_bind_ret, forS_apm (fun p => some (chosS side p)) _ _ (by simp; omega) fun p _ st hst => ?_, q_bind_ret, List.nil_append]
  · have ej := t_join (base := base) (kept := keptT base ours theirs) (rs := (partsT base ours theirs).map (chosS side)) (fun k hk => (kept_bnd k hk).1) (chos_short hb ho ht side) (by rw [List.length_map]; omega)
    rw [show (partsT base ours theirs).map (fun p => some (chosS side p)) = ((partsT base ours theirs).map (chosS side)).map some by rw [List.map_map]; rfl]
    simp only [t_kept hb ho ht, ej, q_bind_ret, q_bind_fail, q_bind_exn, q_noex_ret, q_ofO_some, q_ofO_none, andM_t, andM_f, orM_t, orM_f, ite_ret, notM_ret, andM_rr, orM_rr, lpK_inl, lpK_inr, forS_nil, forC_nil, Bool.not_true, Bool.not_false, Bool.true_and, Bool.false_and, Bool.and_true, Bool.and_false, Bool.true_or, Bool.false_or, Bool.or_false, Bool.or_true, Bool.not_not, List.length_map, M.bind_ret, decide_true, decide_false, reduceIte, Bool.false_eq_true, DD.str_inj, String.reduceEq, Option.isSome_some, Option.isSome_none, its_T, asS_S, asI_I, isi_T, isi_T2, isi_S, isi_I, isi_Ib, isi_St, isi_It, isi_Nt, isi_Ns, isi_Is, isi_Si, isi_Bi, isi_Bb, isi_L, lenD_T, lenD_T2, its_T2, ixD_P0, ixD_P1, eqD_S]
    unfold mrgL
    rw [List.length_map]
  · rw [t_mpart, q_bind_ret, mp_none]
    cases c : clashB p with
    | false =>
      rw [if_neg (by decide), q_bind_ret, appM_eq hst, q_bind_ret]
      unfold mp
      rw [c, if_neg (by decide), free_chos c 1 side]
    | true =>
      rw [if_pos rfl, q_bind_ret]
      have e := clash_chos c side
      rcases hs with ⟨h1, rfl⟩ | ⟨h1, rfl⟩
      · rw [if_pos rfl] at e
        rw [h1, if_neg (by decide), q_bind_ret, appM_eq hst, q_bind_ret, e]
      · rw [if_neg (by decide)] at e
        rw [h1, if_pos rfl, q_bind_ret, q_bind_ret, appM_eq hst, q_bind_ret, e]
theorem t_klines : t_kept_lines base ours theirs = M.ret (keptT base ours theirs) := by
  unfold t_kept_lines
  rw [t_chk3 hb ho ht, q_bind_ret, t_kept hb ho ht]
end
/-! the line counts -/
theorem join_shift (base : List Str) (f g : PP → List Str) : ∀ (K : List R3) (ps : List PP), ((joinF base K (ps.map f)).length : Int) - (joinF base K (ps.map g)).length = (ps.map fun p => ((f p).length : Int) - (g p).length).sum
  | K, [] => by cases K <;> rfl
  | [], p :: ps => by
    have ih := join_shift base f g [] ps
    show ((f p ++ joinF base [] (ps.map f)).length : Int) - (g p ++ joinF base [] (ps.map g)).length = _
    rw [List.map_cons, List.sum_cons, List.length_append, List.length_append]
    omega
  | k :: K, p :: ps => by
    have ih := join_shift base f g K ps
    show ((f p ++ lineAt base k :: joinF base K (ps.map f)).length : Int) - (g p ++ lineAt base k :: joinF base K (ps.map g)).length = _
    rw [List.map_cons, List.sum_cons, List.length_append, List.length_append, List.length_cons, List.length_cons]
    omega
theorem sum_clash : ∀ (ps : List PP), (ps.map fun p => ((chosS 1 p).length : Int) - (chosS 2 p).length).sum = ((ps.filter clashB).map fun p => ((p.2.1.length : Nat) : Int) - ((p.2.2.length : Nat) : Int)).sum
  | [] => rfl
  | p :: ps => by
    have ih := sum_clash ps
    rw [List.map_cons, List.sum_cons, ih, List.filter_cons]
    cases c : clashB p with
    | true =>
      rw [if_pos rfl, List.map_cons, List.sum_cons, clash_chos c 1, clash_chos c 2, if_pos rfl, if_neg (by decide)]
    | false =>
      rw [if_neg (by decide), free_chos c 1 2]
      omega
theorem mrg_shift (base ours theirs : List Str) : ((mrgL 1 base ours theirs).length : Int) - (mrgL 2 base ours theirs).length = ((clsL base ours theirs).map fun p => ((p.2.1.length : Nat) : Int) - ((p.2.2.length : Nat) : Int)).sum := by
  unfold mrgL clsL
  rw [pre_join, pre_join, join_shift, sum_clash]
theorem mrg_free {base ours theirs : List Str} (h : ∀ p ∈ partsT base ours theirs, clashB p = false) : mrgL 2 base ours theirs = mrgL 1 base ours theirs := by
  unfold mrgL
  rw [show (partsT base ours theirs).map (chosS 2) = (partsT base ours theirs).map (chosS 1) from List.map_congr_left fun p hp => free_chos (h p hp) 2 1]
theorem sm_kept {l : List R3} (h : l.length ≤ 16777216) : smD 8 (eT (eP3 D.int D.int D.int) l) := ⟨by rw [List.length_map]; exact h, fun d hd => by
  obtain ⟨x, _, rfl⟩ := List.mem_map.mp hd
  refine ⟨by simp, fun z hz => ?_⟩
  simp only [List.mem_cons, List.not_mem_nil, or_false] at hz
  rcases hz with rfl | rfl | rfl <;> trivial⟩
end HD
namespace HD
open PySem DD
theorem t_lclash (p : PP) : t__law_clash p = M.ret (clashB p) := rfl
theorem ix0C (v : Str × List PP) : dIx (eC v) (.int 0) = some (.str v.1) := rfl
theorem h_law {A0 A1 : Addr} (ne : A0 ≠ A1) : Tr (t_law A0 A1) (· = true) := by
  unfold t_law
  refine Tr.bind (h_lines ne) fun base hb => Tr.bind (h_edit ne hb) fun ours ho => Tr.bind (h_edit ne hb) fun theirs ht => Tr.bind (Q := fun l => l.length ≤ 17) (Tr.bind (Q := fun _ => True) (Tr.bind (h_take ne (by decide) (by decide)) fun _ _ => Tr.ret trivial) fun b _ => ?_) fun st hst => ?_
  · cases b with
    | true =>
      rw [if_pos rfl]
      exact Tr.bind (h_lines ne) fun l hl => Tr.ret (show l.length ≤ 17 by omega)
    | false =>
      rw [if_neg (by decide)]
      exact Tr.ret ht
  · have b20 : base.length ≤ 20 := by omega
    have o20 : ours.length ≤ 20 := by omega
    have s20 : st.length ≤ 20 := by omega
    have kl := keptT_len (ours := ours) (theirs := st) b20
    have pl := partsT_len (base := base) (ours := ours) (theirs := st)
    have ec : lcM (fun x => t__law_clash x) (fun x => (M.ret x : M JS PP)) (partsT base ours st) = M.ret (clsL base ours st) := by
      have h := lcM_eq (p := fun x => t__law_clash x) (g := fun x => (M.ret x : M JS PP)) (xs := partsT base ours st) clashB id (by omega) (fun x _ => t_lclash x) fun x _ _ => rfl
      rw [List.map_id] at h
      exact h
    have cl := cls_len b20 o20 s20
    have em : lcM (fun (_ : PP) => (M.ret true : M JS Bool)) (fun (x : PP) => (M.ret (((x.2.1.length : Nat) : Int) - ((x.2.2.length : Nat) : Int)) : M JS _)) (clsL base ours st) = M.ret ((clsL base ours st).map fun p => ((p.2.1.length : Nat) : Int) - ((p.2.2.length : Nat) : Int)) := lcM_map _ (by omega) fun _ _ => rfl
    rw [t_lkept b20 o20 s20, q_bind_ret]
    have l1 := mrgL_len b20 o20 s20 1
    have l2 := mrgL_len b20 o20 s20 2
    have f1 := t_mfor b20 o20 s20 (sd := "ours") (side := 1) (.inl ⟨by decide +kernel, rfl⟩)
    have f2 := t_mfor b20 o20 s20 (sd := "theirs") (side := 2) (.inr ⟨by decide +kernel, rfl⟩)
    have g1 : t__law_same 8 (eT D.str (mrgL 1 base ours st)) (eT D.str (mrgL 1 base ours st)) = M.ret true := t_same (sm_strs 6 _ (by omega))
    have g2 : t__law_same 8 (eT D.str (mrgL 2 base ours st)) (eT D.str (mrgL 2 base ours st)) = M.ret true := t_same (sm_strs 6 _ (by omega))
    have g3 := t_same (sm_kept (l := keptT base ours st) (by omega))
    have g4 : t__law_same 8 (eG ("merged", mrgL 1 base ours st)) (eG ("merged", mrgL 1 base ours st)) = M.ret true := t_same (sm_G (by omega))
    have sh := mrg_shift base ours st
    have em1 := t_mrg b20 o20 s20
    simp only [t_klines b20 o20 s20, t_lparts b20 o20 s20, t_lmerged b20 o20 s20 (.inl rfl), t_lmerged b20 o20 s20 (.inr rfl), ec, em, f1, f2, g1, g2, g3, em1, decide_eq_true sh, q_bind_ret, q_bind_fail, q_bind_exn, q_noex_ret, q_ofO_some, q_ofO_none, andM_t, andM_f, orM_t, orM_f, ite_ret, notM_ret, andM_rr, orM_rr, lpK_inl, lpK_inr, forS_nil, forC_nil, Bool.not_true, Bool.not_false, Bool.true_and, Bool.false_and, Bool.and_true, Bool.and_false, Bool.true_or, Bool.false_or, Bool.or_false, Bool.or_true, Bool.not_not, List.length_map, M.bind_ret, decide_true, decide_false, reduceIte, Bool.false_eq_true, DD.str_inj, String.reduceEq, Option.isSome_some, Option.isSome_none, its_T, asS_S, asI_I, isi_T, isi_T2, isi_S, isi_I, isi_Ib, isi_St, isi_It, isi_Nt, isi_Ns, isi_Is, isi_Si, isi_Bi, isi_Bb, isi_L, lenD_T, lenD_T2, its_T2, ixD_P0, ixD_P1, eqD_S]
    have er : (repTM ([("a" : Str)] : List Str) 21 : M JS _) = M.ret (List.replicate 21 ("a" : Str)) := rfl
    have r1 : t__law_refused base ours (List.replicate 21 ("a" : Str)) = M.ret (eSI ("theirs", 20)) := by
      unfold t__law_refused t_merge_for t_check_three
      rw [ct_ok _ b20, q_bind_ret, ct_ok _ o20, q_bind_ret, ct_many _ (show 20 < (List.replicate 21 ("a" : Str)).length by rw [List.length_replicate]; decide), q_bind_exn, q_bind_exn]
      exact try_exn _ _ (ex_many "theirs" 20)
    have r2 : t__law_refused base ours (cutD (List.replicate 21 ("a" : Str)) none (some 20)) = M.ret (eSI ("let", 0)) := by
      unfold t__law_refused
      rw [t_mfor b20 o20 (show (cutD (List.replicate 21 ("a" : Str)) none (some 20)).length ≤ 20 by decide +kernel) (sd := "ours") (side := 1) (.inl ⟨by decide +kernel, rfl⟩)]
      rfl
    have r3 : t__law_refused_D (eT D.str base) (eL D.str ours) (eT D.str (List.replicate 21 ("a" : Str))) = M.ret (eSI ("ours", -1)) := by
      refine ref_D ?_
      unfold t_check_three_D
      rw [ctD_ok _ b20, q_bind_ret, show eL D.str ours = .lst (ours.map D.str) from rfl, ctD_list, q_bind_exn]
    have c4 : (catM (base.map D.str) (([()] : List Unit).map eU) : M JS _) = M.ret (base.map D.str ++ [.non]) := catM_eq (by simp; omega)
    have hstr : ∀ l : List Str, ∀ d ∈ l.map D.str, ∃ s, d = .str s := fun l d hd => by obtain ⟨s, _, rfl⟩ := List.mem_map.mp hd; exact ⟨s, rfl⟩
    have r4 : t__law_refused_D (eT (id : D → D) (base.map D.str ++ [.non])) (.int 5) (.int 5) = M.ret (eSI ("base", base.length)) := by
      refine ref_D ?_
      unfold t_check_three_D
      have := ctD_bad "base" (A := base.map D.str) (d := .non) (hstr base) (by rw [List.length_map]; omega) (by simp only [q_bind_ret, q_bind_fail, q_bind_exn, q_noex_ret, q_ofO_some, q_ofO_none, andM_t, andM_f, orM_t, orM_f, ite_ret, notM_ret, andM_rr, orM_rr, lpK_inl, lpK_inr, forS_nil, forC_nil, Bool.not_true, Bool.not_false, Bool.true_and, Bool.false_and, Bool.and_true, Bool.and_false, Bool.true_or, Bool.false_or, Bool.or_false, Bool.or_true, Bool.not_not, List.length_map, M.bind_ret, decide_true, decide_false, reduceIte, Bool.false_eq_true, DD.str_inj, String.reduceEq, Option.isSome_some, Option.isSome_none, its_T, asS_S, asI_I, isi_T, isi_T2, isi_S, isi_I, isi_Ib, isi_St, isi_It, isi_Nt, isi_Ns, isi_Is, isi_Si, isi_Bi, isi_Bb, isi_L, lenD_T, lenD_T2, its_T2, ixD_P0, ixD_P1, eqD_S])
      rw [List.length_map] at this
      rw [show eT (id : D → D) (base.map D.str ++ [.non]) = .tup (base.map D.str ++ [.non]) by unfold eT; rw [List.map_id], this, q_bind_exn]
    have c5 : (catM (st.map D.str) (([(5 : Int)] : List Int).map D.int) : M JS _) = M.ret (st.map D.str ++ [.int 5]) := catM_eq (by simp; omega)
    have r5 : t__law_refused_D (eT D.str base) (eT D.str ours) (eT (id : D → D) (st.map D.str ++ [.int 5])) = M.ret (eSI ("theirs", st.length)) := by
      refine ref_D ?_
      unfold t_check_three_D
      have := ctD_bad "theirs" (A := st.map D.str) (d := .int 5) (hstr st) (by rw [List.length_map]; omega) (by simp only [q_bind_ret, q_bind_fail, q_bind_exn, q_noex_ret, q_ofO_some, q_ofO_none, andM_t, andM_f, orM_t, orM_f, ite_ret, notM_ret, andM_rr, orM_rr, lpK_inl, lpK_inr, forS_nil, forC_nil, Bool.not_true, Bool.not_false, Bool.true_and, Bool.false_and, Bool.and_true, Bool.and_false, Bool.true_or, Bool.false_or, Bool.or_false, Bool.or_true, Bool.not_not, List.length_map, M.bind_ret, decide_true, decide_false, reduceIte, Bool.false_eq_true, DD.str_inj, String.reduceEq, Option.isSome_some, Option.isSome_none, its_T, asS_S, asI_I, isi_T, isi_T2, isi_S, isi_I, isi_Ib, isi_St, isi_It, isi_Nt, isi_Ns, isi_Is, isi_Si, isi_Bi, isi_Bb, isi_L, lenD_T, lenD_T2, its_T2, ixD_P0, ixD_P1, eqD_S])
      rw [List.length_map] at this
      rw [ctD_ok _ b20, q_bind_ret, ctD_ok _ o20, q_bind_ret, show eT (id : D → D) (st.map D.str ++ [.int 5]) = .tup (st.map D.str ++ [.int 5]) by unfold eT; rw [List.map_id], this, q_bind_exn]
    by_cases c : 0 < (clsL base ours st).length
    · have e1 : mrg base ours st = eC ("clash", clsL base ours st) := if_pos c
      have s0 : (neD (.str "clash") (.str "clash") : M JS Bool) = M.ret false := by rw [neD_S, decide_eq_true rfl]; rfl
      simp only [e1, ix0C, s0, decide_eq_true (show (0 : Int) < (((clsL base ours st).length : Nat) : Int) by omega), decide_eq_false (show ¬ (((clsL base ours st).length : Nat) : Int) = 0 by omega), er, r1, r2, r3, c4, r4, c5, r5, n1, q1, q_bind_ret, q_bind_fail, q_bind_exn, q_noex_ret, q_ofO_some, q_ofO_none, andM_t, andM_f, orM_t, orM_f, ite_ret, notM_ret, andM_rr, orM_rr, lpK_inl, lpK_inr, forS_nil, forC_nil, Bool.not_true, Bool.not_false, Bool.true_and, Bool.false_and, Bool.and_true, Bool.and_false, Bool.true_or, Bool.false_or, Bool.or_false, Bool.or_true, Bool.not_not, List.length_map, M.bind_ret, decide_true, decide_false, reduceIte, Bool.false_eq_true, DD.str_inj, String.reduceEq, Option.isSome_some, Option.isSome_none, its_T, asS_S, asI_I, isi_T, isi_T2, isi_S, isi_I, isi_Ib, isi_St, isi_It, isi_Nt, isi_Ns, isi_Is, isi_Si, isi_Bi, isi_Bb, isi_L, lenD_T, lenD_T2, its_T2, ixD_P0, ixD_P1, eqD_S]
      exact Tr.ret rfl
    · have e1 : mrg base ours st = eP D.str (eT D.str) ("merged", mrgL 1 base ours st) := if_neg c
      have e2 := mrg_free (no_clash c)
      have g4 : t__law_same 8 (eP D.str (eT D.str) ("merged", mrgL 1 base ours st)) (eP D.str (eT D.str) ("merged", mrgL 1 base ours st)) = M.ret true := g4
      simp only [e1, e2, g1, g4, decide_eq_false (show ¬ (0 : Int) < (((clsL base ours st).length : Nat) : Int) by omega), decide_eq_true (show (((clsL base ours st).length : Nat) : Int) = 0 by omega), er, r1, r2, r3, c4, r4, c5, r5, n1, q1, q_bind_ret, q_bind_fail, q_bind_exn, q_noex_ret, q_ofO_some, q_ofO_none, andM_t, andM_f, orM_t, orM_f, ite_ret, notM_ret, andM_rr, orM_rr, lpK_inl, lpK_inr, forS_nil, forC_nil, Bool.not_true, Bool.not_false, Bool.true_and, Bool.false_and, Bool.and_true, Bool.and_false, Bool.true_or, Bool.false_or, Bool.or_false, Bool.or_true, Bool.not_not, List.length_map, M.bind_ret, decide_true, decide_false, reduceIte, Bool.false_eq_true, DD.str_inj, String.reduceEq, Option.isSome_some, Option.isSome_none, its_T, asS_S, asI_I, isi_T, isi_T2, isi_S, isi_I, isi_Ib, isi_St, isi_It, isi_Nt, isi_Ns, isi_Is, isi_Si, isi_Bi, isi_Bb, isi_L, lenD_T, lenD_T2, its_T2, ixD_P0, ixD_P1, eqD_S]
      exact Tr.ret rfl
theorem law_D : LawD f__law_jar 13 m_law := law_typed (fun A0 A1 => rf_law A0 A1) fun A0 A1 ne => h_law ne
end HD
open PySem PySem.W PySem.Calls PyProof.Rows
theorem PySem.Challenge.cw_wreckfloor_k74_merge_for_holds : PySem.Challenge.rw_wreckfloor_k74_merge_for.Holds := by
  w_on; o_law
  refine HandSHeadRun.head_any (r := HD.R) (q := view HD.R.prog [32]) (H := HD.hk) (ob := HD.ob) (M := 4000) (loose := HD.loose) (d := HandSHeadRun.topDef HD.R.prog 32) (kwd := []) HD.ob_eq
    (by kernel_rfl) (fun s => by kernel_rfl) HD.run (by kernel_rfl) (by kernel_rfl) (by kernel_rfl) (by rfl) (by first | assumption | decide +kernel) (by decide +kernel) ⟨rfl, rfl, rfl, rfl, rfl, by decide +kernel⟩ ?hw ?hc
  case hw => w_witness2
  case hc =>
    refine L2.walk_ofE (l := PySem.Challenge.rw_wreckfloor_k74_merge_for) (n := 63) (k := 11) (x := "script") (CX := L2.CX0) rfl (by decide) (by kernel_rfl) ⟨rfl, by decide, by decide⟩ ?F (fun _ _ _ _ z => z)
    intro w mg fa h Y G hmg0
    obtain ⟨K, KX, c⟩ := Y
    have hmg : mg ("law" : PySem.Str) = some (.ref fa) := by
      have e : (HandSHeadRun.topDef HD.R.prog 32).name = ("law" : PySem.Str) := by kernel_rfl
      rw [← e]
      exact hmg0
    have e := hmg.symm.trans (He.glo_ok KX G (c.t.d.fact 25 (f := .glo "law") rfl))
    cases e
    obtain ⟨fd, F⟩ := c.t.d.def_ 25 (d := HD.dd "law" 32) rfl
    have b := L2.FunD.bindsA (ps := ["script"]) F fun _ _ _ _ _ _ us hl => match us, hl with | [_], _ => rfl
    exact ⟨K, fd, DD.spLaw K, KX, fun s v => b s [v] rfl, fun H a ns hl _ hS => ⟨a, ns, rfl, hS, hl, fun _ => rfl⟩, fun base k1 k2 => HD.d_law ⟨k1, k2, c.t.d, c.more⟩ HD.law_D F⟩
