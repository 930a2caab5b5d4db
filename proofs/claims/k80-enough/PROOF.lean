import PyProof.Rows.All
import Wide.All
import OpenK.AllK
import Wide.FinOn
import PySem.Challenge.RW_wishmet_k80_enough
import KE.KDictZip
import HandS.Zip
import HandS.Dict
import HandS.More
import KE.SortData
import KE.DataMinMax
import KE.DataCmp
import KE.DataEq
import KE.DataAny
import KE.DataIsa
import HandS.List
import HandS.ForMost
import HandS.ForExc
import HandS.Wide
import HandS.TupAny
import HandS.TupLen
import HandS.TupLe
import HandS.ExcIs
import HandS.ExcField
import HandS.ExcInit
import HandS.IsInst
import HandS.Flow
import HandS.Defaults
import HandS.HeadHook2
import HandS.HotCalls
import HandS.TryMany
import HandS.TryOnly
import HandS.Call
import HandS.TupMul
import HandS.Deep
import HandS.Records
import HandS.Comp
import HandS.Conv
import HandS.Iter
import PyProof.Draws
import PyProof.EnumMake
import HandS.Small
import HandS.ExcBuiltin
import HandS.Style
import HandS.Star
import HandS.DictComp
import KE.KStateDown
import HandS.Ends
import HandS.Words
import HandS.WordsExc
import HandS.Head0
import HandS.Head1
import HandS.Head2
import HandS.HeadEnd
import HandS.HeadHook1
section
set_option Elab.async false
set_option linter.all false
set_option maxRecDepth 100000
set_option maxHeartbeats 2000000
/-! PD, part 0: dict(zip(xs, ys)) of two tuples. -/
namespace PDZip
open PySem PySem.Sem
section
variable {prog : Program} {w : World} {A : Around} {E : Value → Shared → Prop} {s : Shared} {z TI TO T i1 i2 l1 l2 : Addr} {f : Bool} {oT : Obj} {k1 k2 : Nat} {xs ys : Array Value}
/-- what a heap of the walk keeps -/
def Kp (z i1 i2 : Addr) (h h' : Heap) : Prop := ∀ c o, c ≠ z → c ≠ i1 → c ≠ i2 → h.get? c = some o → h'.get? c = some o
/-- zip.__next__, its last tuple still out, up to the turns of both iterators -/
theorem next_begun {Q : Fin → Shared → Prop} (hz : IsZipHeld s.heap z TI TO T f) (hT : s.heap.get? T = some oT) (hTI : IsPair s.heap TI (.ref i1) (.ref i2))
    (h : ∀ h₁, IsZipHeld h₁ z TI TO T true → Heap.SameBut z s.heap h₁ → wpAny (model prog w) A (Builtin.SmallTypes.nextOf (.ref i1)) (fun x s₂ => wpAny (model prog w) A (Builtin.SmallTypes.nextOf (.ref i2)) (fun y s₃ => Q (.done (.ret (.ref s₃.heap.objs.size))) { s₃ with heap := s₃.heap.push { cls := .type "tuple", data := .seq #[x, y] } }) E s₂) E { s with heap := h₁ }) :
    wpAny (model prog w) A (Builtin.«zip.__next__» ⟨[.ref z], []⟩) Q E s := by
  refine (show wpAny _ _ (field (.ref z) 2 >>= _) _ _ _ from wpAny_bind (wpAny_field hz rfl (x := .bool false) rfl ?_))
  refine (show wpAny _ _ (field (.ref z) 3 >>= _) _ _ _ from wpAny_bind (wpAny_field hz rfl (x := .ref TI) rfl (wpAny_bind (wpAny_seqItems hTI rfl ?_))))
  refine (show wpAny _ _ (Builtin.SmallTypes.ownedTupleIsFree (.ref z) >>= _) _ _ _ from wpAny_bind (wpAny_tupleHeld_zip hz hT fun h₁ hz₁ hs₁ => ?_))
  simp only [Bool.false_eq_true, if_false, ← Array.forIn_toList, List.forIn_cons, List.forIn_nil]
  refine wpAny_bind (wpAny_bind (wpAny_bind (wpAny_holding ?_)))
  refine (show wpAny _ _ (Builtin.SmallTypes.nextOf (.ref i1) >>= _) _ _ _ from wpAny_bind (wpAny_mono (h h₁ hz₁ hs₁) (fun x s₂ q => ?_) fun _ _ e => e))
  refine wpAny_pure (wpAny_pure (wpAny_bind (wpAny_bind (wpAny_holding ?_))))
  refine (show wpAny _ _ (Builtin.SmallTypes.nextOf (.ref i2) >>= _) _ _ _ from wpAny_bind (wpAny_mono q (fun y s₃ q3 => ?_) fun _ _ e => e))
  refine wpAny_pure (wpAny_pure (wpAny_pure ?_))
  exact (show wpAny _ _ (newTuple [x, y] >>= _) _ _ _ from wpAny_bind (wpAny_newTuple (wpAny_pure q3)))
/-- next(z), by zip.__next__ -/
theorem next_of {Q : Option Value → Shared → Prop} (ty : s.TypeIs (.ref z) "zip") (h : wpAny (model prog w) A.in1 (Builtin.«zip.__next__» ⟨[.ref z], []⟩) (fun fin s' => ∃ v, fin = .done (.ret v) ∧ Q (some v) s') (fun e s' => ∃ a o, e = .ref a ∧ s'.heap.get? a = some o ∧ o.cls = .type "StopIteration" ∧ Q none s') s) :
    wpAny (model prog w) A (pyNext (.ref z)) Q E s := by
  unfold pyNext
  refine wpAny_bind (wpAny_attempt (wpAny_callSpecial?_slot (name := Str.ofString "__next__") ty F.slot_zip_next (wpAny_call_entry F.slot_zip_next ty F.entry_zip_next (wpAny_mono h (fun fin s' ⟨v, e, q⟩ => ⟨v, e, wpAny_pure q⟩) fun e s' ⟨a, o, ea, ho, hc, q⟩ => ?_) (F.args_zip_next_1 _))))
  subst ea
  exact wpAny_bind (wpAny_isInstance (T := "StopIteration") (b := true) ⟨o, ho, hc⟩ isSubtype_stop (wpAny_pure q))
theorem held_item {x y : Value} {Q : Option Value → Shared → Prop} (D : ZipApart z TI TO i1 i2 l1 l2) (hz : IsZipHeld s.heap z TI TO T f) (hT : s.heap.get? T = some oT) (hTI : IsPair s.heap TI (.ref i1) (.ref i2))
    (h1 : s.heap.IsTupleIter i1 l1 k1) (h2 : s.heap.IsTupleIter i2 l2 k2) (hl1 : s.heap.IsTuple l1 xs) (hl2 : s.heap.IsTuple l2 ys) (hx : xs[k1]? = some x) (hy : ys[k2]? = some y)
    (hQ : ∀ h', IsZipHeld h' z TI TO T true → h'.IsTupleIter i1 l1 (k1 + 1) → h'.IsTupleIter i2 l2 (k2 + 1) → IsPair h' s.heap.objs.size x y → Kp z i1 i2 s.heap h' → Q (some (.ref s.heap.objs.size)) { s with heap := h' }) :
    wpAny (model prog w) A (pyNext (.ref z)) Q E s := by
  refine next_of ⟨_, hz, rfl⟩ (next_begun hz hT hTI fun h₁ hz₁ hs₁ => ?_)
  refine RZ.nextOf_tuple_item (s := { s with heap := h₁ }) (h1.extBut hs₁.extBut D.i1z) (hl1.extBut hs₁.extBut D.l1z) hx fun h₂ a2 hs₂ => ?_
  refine RZ.nextOf_tuple_item (s := { s with heap := h₂ }) ((h2.extBut hs₁.extBut D.i2z).extBut hs₂.extBut D.i12.symm) ((hl2.extBut hs₁.extBut D.l2z).extBut hs₂.extBut D.l2i1) hy fun h₃ a3 hs₃ => ?_
  have sz : h₃.objs.size = s.heap.objs.size := by rw [hs₃.1, hs₂.1, hs₁.1]
  have pu : ∀ {c o}, h₃.get? c = some o → (h₃.push { cls := .type "tuple", data := .seq #[x, y] }).get? c = some o := fun e => Heap.get?_push_of_some _ e
  have np : IsPair (h₃.push { cls := .type "tuple", data := .seq #[x, y] }) h₃.objs.size x y := Heap.get?_push_size _ rfl
  refine ⟨_, rfl, ?_⟩
  show Q (some (.ref h₃.objs.size)) { s with heap := _ }
  rw [sz] at np ⊢
  exact hQ _ (pu (hs₃.extBut _ _ D.i2z.symm (hs₂.extBut _ _ D.i1z.symm hz₁))) ((a2.extBut hs₃.extBut D.i12).at fun o e => pu e) (a3.at fun o e => pu e) np fun c o c1 c2 c3 e => pu (hs₃.extBut _ _ c3 (hs₂.extBut _ _ c2 (hs₁.extBut _ _ c1 e)))
theorem held_end {Q : Option Value → Shared → Prop} (hh : A.handled = none) (D : ZipApart z TI TO i1 i2 l1 l2) (hz : IsZipHeld s.heap z TI TO T f) (hT : s.heap.get? T = some oT) (hTI : IsPair s.heap TI (.ref i1) (.ref i2))
    (h1 : s.heap.IsTupleIter i1 l1 k1) (h2 : s.heap.IsTupleIter i2 l2 k2) (hl1 : s.heap.IsTuple l1 xs) (hl2 : s.heap.IsTuple l2 ys) (hend : xs[k1]? = none ∨ ys[k2]? = none)
    (hQ : ∀ h', Kp z i1 i2 s.heap h' → Q none { s with heap := h' }) : wpAny (model prog w) A (pyNext (.ref z)) Q E s := by
  refine next_of ⟨_, hz, rfl⟩ (next_begun hz hT hTI fun h₁ hz₁ hs₁ => ?_)
  cases hx : xs[k1]? with
  | none =>
    exact RZ.nextOf_tuple_end (s := { s with heap := h₁ }) hh (h1.extBut hs₁.extBut D.i1z) (hl1.extBut hs₁.extBut D.l1z) hx fun h₂ e hs₂ ⟨o, ho, hc⟩ => ⟨e, o, rfl, ho, hc, hQ h₂ fun c o c1 c2 _ q => hs₂ _ _ c2 (hs₁.extBut _ _ c1 q)⟩
  | some x =>
    have hy : ys[k2]? = none := hend.elim (fun q => absurd (hx.symm.trans q) (fun z => nomatch z)) id
    refine RZ.nextOf_tuple_item (s := { s with heap := h₁ }) (h1.extBut hs₁.extBut D.i1z) (hl1.extBut hs₁.extBut D.l1z) hx fun h₂ a2 hs₂ => ?_
    exact RZ.nextOf_tuple_end (s := { s with heap := h₂ }) hh ((h2.extBut hs₁.extBut D.i2z).extBut hs₂.extBut D.i12.symm) ((hl2.extBut hs₁.extBut D.l2z).extBut hs₂.extBut D.l2i1) hy fun h₃ e hs₃ ⟨o, ho, hc⟩ => ⟨e, o, rfl, ho, hc, hQ h₃ fun c o c1 c2 c3 q => hs₃ _ _ c3 (hs₂.extBut _ _ c2 (hs₁.extBut _ _ c1 q))⟩
end
/-- the zip of two tuples as an argument of dict -/
theorem arg {prog : Program} {w : World} {z TI TO i1 i2 l1 l2 : Addr} (D : ZipApart z TI TO i1 i2 l1 l2) (xs ys : Array Value) :
    PairArg prog w "zip" z [z, TI, TO, i1, i2, l1, l2] [z, TO, i1, i2] (min xs.size ys.size) (fun i k v => xs[i]? = some k ∧ ys[i]? = some v)
      (fun h => IsZip h z TI TO .none ∧ IsPair h TI (.ref i1) (.ref i2) ∧ (∃ a b, IsPair h TO a b) ∧ h.IsTupleIter i1 l1 0 ∧ h.IsTupleIter i2 l2 0 ∧ h.IsTuple l1 xs ∧ h.IsTuple l2 ys) where
  type := fun s ok => ⟨_, ok.1, rfl⟩
  notDict := by decide
  keep := fun h h' ⟨a1, a2, ⟨a, b, a3⟩, a4, a5, a6, a7⟩ k => ⟨k _ _ a1, k _ _ a2, ⟨a, b, k _ _ a3⟩, a4.at fun o e => k _ o e, a5.at fun o e => k _ o e, a6.at fun o e => k _ o e, a7.at fun o e => k _ o e⟩
  there := fun h ⟨a1, a2, ⟨a, b, a3⟩, ⟨o4, a4, _⟩, ⟨o5, a5, _⟩, ⟨o6, a6, _⟩, ⟨o7, a7, _⟩⟩ b hb => by
    simp only [List.mem_cons, List.not_mem_nil, or_false] at hb
    rcases hb with rfl | rfl | rfl | rfl | rfl | rfl | rfl
    · exact ⟨_, a1⟩
    · exact ⟨_, a2⟩
    · exact ⟨_, a3⟩
    · exact ⟨_, a4⟩
    · exact ⟨_, a5⟩
    · exact ⟨_, a6⟩
    · exact ⟨_, a7⟩
  sub := fun b hb => by
    simp only [List.mem_cons, List.not_mem_nil, or_false] at hb ⊢
    rcases hb with rfl | rfl | rfl | rfl <;> simp
  noKeys := fun A s Q E hA ok h => getAttrOr_miss_zip ok.1 rfl rfl rfl zip_no_keys (by decide +kernel) hA h
  iter := fun A s d Q E hA ⟨hz, hTI, ⟨a, b, hTO⟩, h1, h2, hl1, hl2⟩ hd hdf h => by
    simp only [List.mem_cons, List.not_mem_nil, or_false, not_or] at hdf
    obtain ⟨dz, dTI, dTO, di1, di2, dl1, dl2⟩ := hdf
    refine wpAny_pyIter_zip hz (h z [z, TO, i1, i2] (fun i h => (IsPair h TI (.ref i1) (.ref i2) ∧ h.IsTupleIter i1 l1 i ∧ h.IsTupleIter i2 l2 i ∧ h.IsTuple l1 xs ∧ h.IsTuple l2 ys) ∧
      ((IsZip h z TI TO .none ∧ ∃ a b, IsPair h TO a b) ∨ ∃ T f oT, IsZipHeld h z TI TO T f ∧ h.get? T = some oT ∧ T ≠ z ∧ T ≠ i1 ∧ T ≠ i2 ∧ T ≠ d)) s.heap s.toks ?_ ⟨⟨hTI, h1, h2, hl1, hl2⟩, .inl ⟨hz, a, b, hTO⟩⟩ (fun _ _ e => e) fun b hb => .inl hb)
    refine ⟨fun hm => ?_, fun i h₁ h₂ st hk => ?_, fun i s₁ Q₁ E₁ hi st hds hQ => ?_, fun s₁ Q₁ E₁ st hQ => ?_⟩
    · simp only [List.mem_cons, List.not_mem_nil, or_false] at hm
      exact hm.elim dz fun q => q.elim dTO fun q => q.elim di1 di2
    · obtain ⟨⟨c1, c2, c3, c4, c5⟩, hz⟩ := st
      refine ⟨⟨hk _ _ (Ne.symm dTI) c1, c2.at fun o e => hk _ o (Ne.symm di1) e, c3.at fun o e => hk _ o (Ne.symm di2) e, c4.at fun o e => hk _ o (Ne.symm dl1) e, c5.at fun o e => hk _ o (Ne.symm dl2) e⟩, ?_⟩
      exact hz.imp (fun ⟨q, a, b, q2⟩ => ⟨hk _ _ (Ne.symm dz) q, a, b, hk _ _ (Ne.symm dTO) q2⟩) fun ⟨T, f, oT, q, q2, r1, r2, r3, r4⟩ => ⟨T, f, oT, hk _ _ (Ne.symm dz) q, hk _ _ r4 q2, r1, r2, r3, r4⟩
    · obtain ⟨⟨c1, c2, c3, c4, c5⟩, hz⟩ := st
      have ex := Array.getElem?_eq_getElem (show i < xs.size by omega)
      have ey := Array.getElem?_eq_getElem (show i < ys.size by omega)
      have lt : ∀ {c o}, s₁.heap.get? c = some o → s₁.heap.objs.size ≠ c := fun e => Nat.ne_of_gt (Heap.lt_size e)
      have n1 : s₁.heap.objs.size ≠ i1 := let ⟨_, e, _⟩ := c2; lt e
      have n2 : s₁.heap.objs.size ≠ i2 := let ⟨_, e, _⟩ := c3; lt e
      rcases hz with ⟨hz, a, b, hTO⟩ | ⟨T, f, oT, hz, hT, r1, r2, r3, r4⟩
      · refine RZ.pyNext_zipT_item D hz c1 hTO c2 c3 c4 c5 ex ey fun h' a1 a2 a3 a4 a5 a6 hk => ?_
        have kk : ∀ {c o}, c ≠ z → c ≠ TO → c ≠ i1 → c ≠ i2 → s₁.heap.get? c = some o → h'.get? c = some o := fun p q r t e => hk _ _ p q r t e
        exact hQ s₁.heap.objs.size _ _ h' s₁.toks ⟨ex, ey⟩ (.inl ⟨_, a5, rfl, _, rfl⟩) ⟨⟨kk D.TIz D.TITO D.TIi1 D.TIi2 c1, a3, a4, c4.at fun o e => kk D.l1z D.l1TO D.l1i1 D.l1i2 e, c5.at fun o e => kk D.l2z D.l2TO D.l2i1 D.l2i2 e⟩,
          .inr ⟨s₁.heap.objs.size, false, _, a1, a5, lt hz, n1, n2, Nat.ne_of_gt hds⟩⟩ fun c o hc e => hk c o (fun x => hc (by simp [x])) (fun x => hc (by simp [x])) (fun x => hc (by simp [x])) (fun x => hc (by simp [x])) e
      · refine held_item D hz hT c1 c2 c3 c4 c5 ex ey fun h' a1 a3 a4 a5 hk => ?_
        exact hQ s₁.heap.objs.size _ _ h' s₁.toks ⟨ex, ey⟩ (.inl ⟨_, a5, rfl, _, rfl⟩) ⟨⟨hk _ _ D.TIz D.TIi1 D.TIi2 c1, a3, a4, c4.at fun o e => hk _ o D.l1z D.l1i1 D.l1i2 e, c5.at fun o e => hk _ o D.l2z D.l2i1 D.l2i2 e⟩,
          .inr ⟨T, true, oT, a1, hk _ _ r1 r2 r3 hT, r1, r2, r3, r4⟩⟩ fun c o hc e => hk c o (fun x => hc (by simp [x])) (fun x => hc (by simp [x])) (fun x => hc (by simp [x])) e
    · obtain ⟨⟨c1, c2, c3, c4, c5⟩, hz⟩ := st
      have he : xs[min xs.size ys.size]? = none ∨ ys[min xs.size ys.size]? = none := by
        by_cases h : xs.size ≤ ys.size
        · exact .inl (Array.getElem?_eq_none (by omega))
        · exact .inr (Array.getElem?_eq_none (by omega))
      rcases hz with ⟨hz, a, b, hTO⟩ | ⟨T, f, oT, hz, hT, r1, r2, r3, r4⟩
      · exact RZ.pyNext_zipT_end hA D hz c1 hTO c2 c3 c4 c5 he fun h' hk => hQ h' s₁.toks fun c o hc e => hk c o (fun x => hc (by simp [x])) (fun x => hc (by simp [x])) (fun x => hc (by simp [x])) (fun x => hc (by simp [x])) e
      · exact held_end hA D hz hT c1 c2 c3 c4 c5 he fun h' hk => hQ h' s₁.toks fun c o hc e => hk c o (fun x => hc (by simp [x])) (fun x => hc (by simp [x])) (fun x => hc (by simp [x])) e
end PDZip
namespace PDZip
open PySem PySem.Spec PyProof.Rows L2
section
variable {X : Cx}
/-- dict(zip(xs, ys)), two tuples, the first of ints and texts -/
def tDz (K : PySem.W.Frag) (ta : TA) : TE := fun σ H Q => ta σ H fun vs H1 => ∃ (a b : Addr) (ks : List Key) (ws : List V), vs = [.ref a, .ref b] ∧ SqT K H1 a (ks.map kV) ∧ SqT K H1 b ws ∧ ∀ p, H1 p = none → Q (.ref p) (upd H1 p (.dK (mergeK [] (ks.zip ws))))
theorem kv_zip : ∀ {ks : List Key} {ws : List V} {us : List Value}, Vals ws us → KV (ks.zip ws) (ks.zip us)
  | [], ws, us, _ => by rw [List.zip_nil_left, List.zip_nil_left]; exact .nil
  | k :: ks, ws, us, r => by
    cases r with
    | nil => exact .nil
    | cons h t => exact .cons ⟨rfl, h⟩ (kv_zip t)
theorem is_at {P : Program} {w : World} : ∀ {ks : List Key} {its : List Value} {i : Nat} {u : Value}, Vals (ks.map kV) its → its[i]? = some u → ∃ k, ks[i]? = some k ∧ (mixKind P w).is k u = true
  | [], its, i, u, r, e => by cases r; simp at e
  | k :: ks, its, i, u, r, e => by
    cases r with
    | cons h t =>
      cases i with
      | zero =>
        cases e
        exact ⟨k, rfl, kV_is h⟩
      | succ i =>
        obtain ⟨k', e1, e2⟩ := is_at (ks := ks) t (by simpa using e)
        exact ⟨k', by simpa using e1, e2⟩
theorem pe_dz {ea eb : Expr} {ta : TA} {p p2 pos pos2 : Pos} (hc : X.calm = true) (hg : Gl X "dict") (hm : X.mg "dict" = none) (hg2 : Gl X "zip") (hm2 : X.mg "zip" = none) (ha : PA X [ea, eb] ta)
    (hs : starEach [ea, eb] X.env = (false, eval ea X.env) :: starEach [eb] X.env) (hpl : (backTo pos2 (starEach [eb] X.env)).any (·.1) = false) :
    PE X (.Call (.Name "dict" p) [.Call (.Name "zip" p2) [ea, eb] [] pos2] [] pos) (tDz X.K ta) := by
  refine ⟨fun pins s σ H Q I h => ?_⟩
  refine Call_ (ld_blt I hg hm boot_dict (PyProof.Rows.callWith_type1 (args_cons (Call_ (ld_blt I hg2 hm2 PyProof.Rows.boot_zip (PyProof.Rows.callWith_type1 (thn (ha.run pos2 pins s σ H _ I h) fun us s1 ⟨vs, H1, I1, r1, q1⟩ => ?_) hs hpl))) rfl) rfl rfl))
  obtain ⟨a, b, ks, ws, e, hq1, hq2, q⟩ := q1
  subst e
  cases r1 with
  | cons r rr =>
    cases rr with
    | cons r' rr =>
      cases rr
      cases r
      cases r'
      obtain ⟨its, rv, p1, z1⟩ := I1.tuple hq1
      obtain ⟨its2, rv2, p2, z2⟩ := I1.tuple hq2
      have t1 : s1.heap.IsTuple a its.toArray := p1
      have t2 : s1.heap.IsTuple b its2.toArray := p2
      have la : a < s1.heap.objs.size := let ⟨_, e, _⟩ := p1; Heap.lt_size e
      have lb : b < s1.heap.objs.size := let ⟨_, e, _⟩ := p2; Heap.lt_size e
      refine RZ.call_zipT t1 t2 fun h' hz hTI hTO h1 h2 hsz hk => args_nil ?_
      have L1 := rv.length
      have L2 := rv2.length
      rw [List.length_map] at L1 z1
      have hlen : (ks.zip its2).length ≤ sizeLine := by rw [List.length_zip]; omega
      have big := I1.big
      refine call_dict_pairs (s := { s1 with heap := h' }) (knd := mixKind X.prog X.w) (kvs := ks.zip its2) (arg (PySem.W.ktu_apart s1.heap.objs.size a b la lb) its.toArray its2.toArray) (I1.ok.hd hc) ⟨hz, hTI, ⟨_, _, hTO⟩, h1, h2, t1.at fun o e => hk _ o e, t2.at fun o e => hk _ o e⟩ ⟨by simp [L1], fun i k v ⟨e1, e2⟩ => ?_⟩ (by simp only [List.size_toArray]; omega) fun h'' tk hd' hk2 => ?_
      · obtain ⟨k', g1, g2⟩ := is_at (P := X.prog) (w := X.w) rv (show its[i]? = some k by simpa using e1)
        have e2 : its2[i]? = some v := by simpa using e2
        exact ⟨k', by rw [List.getElem?_zip_eq_some]; exact ⟨g1, e2⟩, g2⟩
      · have hd' : h''.DictOf (mixKind X.prog X.w) h'.objs.size (merged [] (ks.zip its2)) := hd'
        have le : s1.heap.objs.size ≤ h'.objs.size := by omega
        have kk : ∀ c o, s1.heap.get? c = some o → h''.get? c = some o := fun c o e => by
          have hc := Heap.lt_size e
          exact hk2 c o (fun m => by
            have m : c = s1.heap.objs.size + 4 ∨ c = s1.heap.objs.size + 3 ∨ c = s1.heap.objs.size ∨ c = s1.heap.objs.size + 1 := by simpa using m
            rcases m with z | z | z | z <;> (rw [z] at hc; exact absurd hc (Nat.not_lt.mpr (by first | exact Nat.le_refl _ | exact Nat.le_add_right _ _)))) (hk c o e)
        have rel : KV (ks.zip ws) (ks.zip its2) := kv_zip rv2
        have hm : (h'.objs.size == sysModules) = false := beq_eq_false_iff_ne.mpr (Nat.ne_of_gt (Nat.lt_of_lt_of_le big le))
        have hl2 : (mergeK [] (ks.zip ws)).length ≤ sizeLine := Nat.le_trans (length_mergeK (ks.zip ws) []) (by rw [List.length_nil, Nat.zero_add, List.length_zip]; omega)
        exact ⟨.ref h'.objs.size, upd H1 h'.objs.size (.dK (mergeK [] (ks.zip ws))), I1.laid (t' := tk) kk le (show ObjOk X.prog X.w _ _ _ (.dK (mergeK [] (ks.zip ws))) from ⟨hl2, hm, merged [] (ks.zip its2), KV.merge rel .nil, hd'⟩), rfl, q _ (I1.hok.fresh le)⟩
end
end PDZip
end

section
set_option Elab.async false
set_option linter.all false
set_option maxRecDepth 100000
/-! PD, part 1: data, the small language, its meaning. Plain Lean: no heap. -/
namespace PD
open PySem PySem.SeqAt PySem.W

/-! ### data -/
inductive D where
  | non
  | bl (b : Bool)
  | int (i : Int)
  | str (s : Str)
  | tup (xs : List D)
  | lst (xs : List D)
  /-- the law's own script, a list that nobody changes -/
  | scr (xs : List D)
  /-- a dict: t says whether its keys are tuples -/
  | dct (t : Bool) (kvs : List (D × D))
  /-- an instance of the c-th class, its fields in their order -/
  | obj (c : Nat) (fs : List D)
instance : Inhabited D := ⟨.non⟩

mutual
def toP : D → PyData
  | .non => .none
  | .bl b => .bool b
  | .int i => .int i
  | .str s => .str s
  | .tup xs => .tuple (toPs xs)
  | .lst xs => .list (toPs xs)
  | .scr _ => .dict []
  | .dct _ _ => .dict []
  | .obj _ _ => .dict []
def toPs : List D → List PyData
  | [] => []
  | x :: xs => toP x :: toPs xs
end
mutual
def plain : D → Bool
  | .tup xs => plains xs
  | .lst xs => plains xs
  | .scr _ => false
  | .dct _ _ => false
  | .obj _ _ => false
  | .non => true
  | .bl _ => true
  | .int _ => true
  | .str _ => true
def plains : List D → Bool
  | [] => true
  | x :: xs => plain x && plains xs
end
/-- how deep it is -/
def deep (d : D) : Nat := (toP d).depth
def line : Nat := 16777216

/-- an exception: its class, its fields -/
inductive Xc where
  | mk (c : Nat) (args : List D)
/-- what comes -/
inductive R (α : Type) where
  | ok (a : α)
  | exc (x : Xc)
  | stk
def R.bind {α β : Type} (r : R α) (f : α → R β) : R β := match r with
  | .ok a => f a
  | .exc x => .exc x
  | .stk => .stk
def R.ofO {α : Type} : Option α → R α
  | some a => .ok a
  | none => .stk
def guardR {α : Type} (c : Bool) (r : R α) : R α := match c with
  | true => r
  | false => .stk

/-! ### operations -/
def eqD (x y : D) : Bool := PyData.eqv (toP x) (toP y)
def ltD (x y : D) : Bool := dataLt (toP x) (toP y)
def alikeD (x y : D) : Bool := alike (toP x) (toP y)
/-- == can be asked -/
def eqOk (x y : D) : Bool := plain x && plain y && decide (min (deep x) (deep y) ≤ 60)
def tru : D → Option Bool
  | .non => some false
  | .bl b => some b
  | .int i => some (i != 0)
  | .str s => (match decide (s.length ≤ line) with
    | true => some (s.length != 0)
    | false => none)
  | .tup xs => some (!xs.isEmpty)
  | .lst xs => some (!xs.isEmpty)
  | .scr _ => none
  | .dct t kvs => (match t with
    | true => none
    | false => some (!kvs.isEmpty))
  | .obj _ _ => none
inductive BinO where
  | add | sub | mul | fdiv | mod | pow
def small (i : Int) : Bool := decide (-(2 ^ 64) < i) && decide (i < 2 ^ 64)
def smallJ (i : Int) : Bool := decide (-(2 ^ 62) ≤ i) && decide (i < 2 ^ 62)
def mulOk (i j : Int) : Bool := small i || small j || decide (i.natAbs.log2 + j.natAbs.log2 < 1000000)
def binD : BinO → D → D → R D
  | .add, .int i, .int j => .ok (.int (i + j))
  | .add, .str s, .str t => guardR (decide (s.length + t.length ≤ line)) (.ok (.str (s ++ t)))
  | .add, .tup xs, .tup ys => guardR (decide (xs.length + ys.length ≤ line)) (.ok (.tup (xs ++ ys)))
  | .add, .lst xs, .lst ys => guardR (decide (xs.length + ys.length ≤ line)) (.ok (.lst (xs ++ ys)))
  | .sub, .int i, .int j => .ok (.int (i - j))
  | .mul, .tup xs, .int j => guardR (smallJ j && decide (xs.length * j.toNat ≤ line)) (.ok (.tup (List.replicate j.toNat xs).flatten))
  | .mul, .lst xs, .int j => guardR (smallJ j && decide (xs.length * j.toNat ≤ line)) (.ok (.lst (List.replicate j.toNat xs).flatten))
  | .mul, .int i, .int j => guardR (mulOk i j) (.ok (.int (i * j)))
  | .fdiv, .int i, .int j => guardR (decide (0 < j) && decide (j.natAbs.log2 < 9000)) (.ok (.int (i / j)))
  | .mod, .int i, .int j => guardR (decide (0 < j)) (.ok (.int (i % j)))
  | .pow, .int i, .int j => guardR (decide (0 ≤ j) && decide (j ≤ 1000000) && small i) (.ok (.int (i ^ j.toNat)))
  | _, _, _ => .stk
inductive CmpO where
  | eq | ne | lt | le | gt | ge | isin | notin | iss | isnt
def ordOk (x y : D) : Bool := plain x && plain y && alikeD x y && (match x with
  | .non => false
  | _ => true) && decide (min (deep x) (deep y) ≤ 60)
def findK (kvs : List (D × D)) (k : D) : Option D := (kvs.find? fun p => eqD p.1 k).map (·.2)
def isAtom : D → Bool
  | .int _ => true
  | .str _ => true
  | _ => false
def keyOk (t : Bool) : D → Bool
  | .int _ => !t
  | .str _ => !t
  | .tup xs => t && xs.all isAtom
  | _ => false
def cmpD : CmpO → D → D → R D
  | .eq, x, y => guardR (eqOk x y) (.ok (.bl (eqD x y)))
  | .ne, x, y => guardR (eqOk x y) (.ok (.bl (!eqD x y)))
  | .lt, x, y => guardR (ordOk x y) (.ok (.bl (ltD x y)))
  | .le, x, y => guardR (ordOk x y) (.ok (.bl (!ltD y x)))
  | .gt, x, y => guardR (ordOk x y) (.ok (.bl (ltD y x)))
  | .ge, x, y => guardR (ordOk x y) (.ok (.bl (!ltD x y)))
  | .isin, x, .lst ys => guardR (plain x && plains ys && decide (deep x ≤ 60)) (.ok (.bl (ys.any fun y => eqD y x)))
  | .isin, x, .tup ys => guardR (plain x && plains ys && decide (deep x ≤ 60)) (.ok (.bl (ys.any fun y => eqD y x)))
  | .notin, x, .lst ys => guardR (plain x && plains ys && decide (deep x ≤ 60)) (.ok (.bl (!ys.any fun y => eqD y x)))
  | .notin, x, .tup ys => guardR (plain x && plains ys && decide (deep x ≤ 60)) (.ok (.bl (!ys.any fun y => eqD y x)))
  | .isin, x, .dct t kvs => guardR (keyOk t x) (.ok (.bl (findK kvs x).isSome))
  | .notin, x, .dct t kvs => guardR (keyOk t x) (.ok (.bl (!(findK kvs x).isSome)))
  | .iss, .bl a, .bl b => guardR true (.ok (.bl (decide (a = b))))
  | .isnt, .bl a, .bl b => guardR true (.ok (.bl (!decide (a = b))))
  | _, _, _ => .stk

inductive Blt where
  | len | tupleOf | listOf | abs | intOf | strOf | all | any | sum | min1 | max1 | min2 | max2 | sorted
def isBls : List D → Option (List Bool)
  | [] => some []
  | .bl b :: r => (isBls r).map (b :: ·)
  | _ :: _ => none
def isInts : List D → Option (List Int)
  | [] => some []
  | .int i :: r => (isInts r).map (i :: ·)
  | _ :: _ => none
/-- all alike, none None, not too deep -/
def sortOk (xs : List D) : Bool := plains xs && (xs.all fun x => xs.all fun y => alikeD x y) && (xs.all fun x => (match x with
  | .non => false
  | _ => true) && decide (deep x ≤ 60))
def tups1 (xs : List D) : Bool := (xs.all fun x => match x with
  | .tup (_ :: _) => true
  | _ => false) || (xs.all fun x => match x with
  | .tup _ => false
  | _ => true)
def minDD (x : D) (xs : List D) : D := xs.foldl (fun a y => if ltD y a then y else a) x
def maxDD (x : D) (xs : List D) : D := xs.foldl (fun a y => if ltD a y then y else a) x
def strOfInt (i : Int) : Str := toString i
def biD : Blt → List D → R D
  | .len, [.str s] => guardR (decide (s.length ≤ line)) (.ok (.int s.length))
  | .len, [.tup xs] => .ok (.int xs.length)
  | .len, [.lst xs] => .ok (.int xs.length)
  | .len, [.scr xs] => .ok (.int xs.length)
  | .len, [.dct _ kvs] => .ok (.int kvs.length)
  | .tupleOf, [.tup xs] => .ok (.tup xs)
  | .tupleOf, [.lst xs] => .ok (.tup xs)
  | .listOf, [.tup xs] => .ok (.lst xs)
  | .listOf, [.lst xs] => .ok (.lst xs)
  | .listOf, [.dct t kvs] => guardR (!t) (.ok (.lst (kvs.map Prod.fst)))
  | .abs, [.int i] => .ok (.int (if i < 0 then -i else i))
  | .intOf, [.int i] => .ok (.int i)
  | .intOf, [.bl b] => .ok (.int (if b then 1 else 0))
  | .strOf, [.int i] => guardR (decide (i.natAbs.log2 < 1920)) (.ok (.str (strOfInt i)))
  | .all, [.lst xs] => (R.ofO (isBls xs)).bind fun bs => .ok (.bl (bs.all id))
  | .any, [.lst xs] => (R.ofO (isBls xs)).bind fun bs => .ok (.bl (bs.any id))
  | .sum, [.lst xs] => (R.ofO (isInts xs)).bind fun is => .ok (.int is.sum)
  | .min1, [.lst (x :: xs)] => guardR (sortOk (x :: xs)) (.ok (minDD x xs))
  | .min1, [.tup (x :: xs)] => guardR (sortOk (x :: xs)) (.ok (minDD x xs))
  | .max1, [.lst (x :: xs)] => guardR (sortOk (x :: xs)) (.ok (maxDD x xs))
  | .max1, [.tup (x :: xs)] => guardR (sortOk (x :: xs)) (.ok (maxDD x xs))
  | .min2, [.int i, .int j] => .ok (.int (if j < i then j else i))
  | .max2, [.int i, .int j] => .ok (.int (if j > i then j else i))
  | .sorted, [.lst xs] => guardR (sortOk xs && tups1 xs) (.ok (.lst (xs.mergeSort (dataLe false toP))))
  | _, _ => .stk
inductive IsT where
  | int | bool | str | tuple | list | dict
def isD : D → IsT → R D
  | .int _, .int => .ok (.bl true)
  | .bl _, .int => .ok (.bl true)
  | .bl _, .bool => .ok (.bl true)
  | .str _, .str => .ok (.bl true)
  | .tup _, .tuple => .ok (.bl true)
  | .lst _, .list => .ok (.bl true)
  | .dct _ _, _ => .stk
  | .obj _ _, _ => .stk
  | .scr _, _ => .stk
  | _, _ => .ok (.bl false)
def idxD : D → D → R D
  | .tup xs, .int i => R.ofO (L2.atI xs i)
  | .lst xs, .int i => R.ofO (L2.atI xs i)
  | .scr xs, .int i => R.ofO (L2.atI xs i)
  | .dct t kvs, k => guardR (keyOk t k) (R.ofO (findK kvs k))
  | _, _ => .stk
def cutL (xs : List D) (lo hi : Option Int) : List D := (xs.drop (HT.sIx xs.length 0 lo)).take (HT.sIx xs.length xs.length hi - HT.sIx xs.length 0 lo)
def smallI (i : Int) : Bool := decide (-(2 ^ 62) ≤ i) && decide (i < 2 ^ 62)
def smallO : Option Int → Bool
  | some i => smallI i
  | none => true
def slcD (x : D) (lo hi : Option Int) : R D := guardR (smallO lo && smallO hi) (match x with
  | .tup xs => .ok (.tup (cutL xs lo hi))
  | .lst xs => .ok (.lst (cutL xs lo hi))
  | _ => .stk)
def fldD (fi : Nat → Str → Option Nat) : D → Str → R D
  | .obj c fs, x => (R.ofO (fi c x)).bind fun j => R.ofO fs[j]?
  | _, _ => .stk
def asInt : D → R Int
  | .int i => .ok i
  | _ => .stk
/-- what a loop walks, of a value -/
def itemsD : D → R (List D)
  | .tup xs => .ok xs
  | .lst xs => .ok xs
  | .scr xs => .ok xs
  | _ => .stk
/-- lo, lo + 1, .. -/
def intsD : Int → Nat → List D
  | _, 0 => []
  | lo, n + 1 => .int lo :: intsD (lo + 1) n
def enumFrom : Int → List D → List D
  | _, [] => []
  | i, x :: xs => .tup [.int i, x] :: enumFrom (i + 1) xs
def zipD : List D → List D → List D
  | x :: xs, y :: ys => .tup [x, y] :: zipD xs ys
  | _, _ => []
def zipOf : D → D → R (List D)
  | .tup xs, .tup ys => .ok (zipD xs ys)
  | .lst xs, .lst ys => .ok (zipD xs ys)
  | _, _ => .stk

/-! ### the language -/
mutual
inductive Tg where
  | n (i : Nat)
  | t (gs : Tgs)
inductive Tgs where
  | nil
  | cons (g : Tg) (r : Tgs)
end
mutual
inductive Ex where
  | var (i : Nat)
  | cI (i : Int) | cB (b : Bool) | cN | cS (s : Str)
  | gI (x : Str) (i : Int) | gS (x : Str) (s : Str)
  | bin (o : BinO) (a b : Ex)
  | neg (a : Ex)
  | cmp (o : CmpO) (a b : Ex)
  | cmp2 (o o' : CmpO) (a b c : Ex)
  | cmp3 (o o' o2 : CmpO) (a b c d : Ex)
  | isN (a : Ex) | notN (a : Ex)
  | and (a b : Ex) | or (a b : Ex) | not (a : Ex)
  | ite (c a b : Ex)
  | tup (es : Exs) | lst (es : Exs)
  | newD (t : Bool)
  | idx (a b : Ex)
  | slL (a lo : Ex) | slU (a hi : Ex) | slB (a lo hi : Ex)
  | fld (a : Ex) (x : Str)
  | call (f : Nat) (es : Exs)
  | mk (c : Nat) (f : Nat) (es : Exs)
  | bi (b : Blt) (es : Exs)
  | isi (a : Ex) (t : IsT)
  | isC (a : Ex) (c : Nat)
  | isE (i : Nat) (c : Nat)
  | fldE (i : Nat) (j : Nat)
  | lR (it : It) | tR (it : It)
  | lc (own : List Nat) (g : Tg) (it : It) (ifs : Exs) (elt : Ex)
  | lc2 (own own2 : List Nat) (g : Tg) (it : It) (ifs : Exs) (g2 : Tg) (it2 : It) (ifs2 : Exs) (elt : Ex)
  | dc (own : List Nat) (g : Tg) (it : It) (ifs : Exs) (k v : Ex)
  | lcN (own : List Nat) (g : Tg) (it : It) (ifs : Exs) (cs : Cla) (elt : Ex)
  | dcN (own : List Nat) (g : Tg) (it : It) (ifs : Exs) (cs : Cla) (k v : Ex)
  | dC (a : Ex)
  | dZ (a b : Ex)
  | callO (f : Nat) (es : Exs)
  | callQ (f : Nat) (es : Exs)
inductive Exs where
  | nil
  | cons (e : Ex) (r : Exs)
  | star (e : Ex) (r : Exs)
inductive It where
  | e (a : Ex)
  | r1 (a : Ex)
  | r2 (a b : Ex)
  | en (a : Ex)
  | zp (a b : Ex)
inductive Cla where
  | nil
  | cons (own : List Nat) (g : Tg) (it : It) (ifs : Exs) (r : Cla)
end
mutual
inductive St where
  | asg (g : Tg) (e : Ex)
  | par (i j : Nat) (a b : Ex)
  | app (i : Nat) (e : Ex)
  | ext (i : Nat) (e : Ex)
  | sub (i : Nat) (k e : Ex)
  | fset (y : Str) (e : Ex)
  | fsub (y : Str) (k e : Ex)
  | aug (i : Nat) (o : BinO) (e : Ex)
  | ife (c : Ex) (a b : Sts)
  | whl (c : Ex) (b : Sts)
  | fr (g : Tg) (it : It) (b : Sts)
  | frD (g : Tg) (j : Nat) (b : Sts)
  | ret (e : Ex) | retN
  | rse (c : Nat) (es : Exs)
  | exp (e : Ex)
  | pas | brk | cnt | nev
  | tryA (b : Sts) (c : Nat) (i : Nat) (s : Sts)
  | tryO (b : Sts) (c : Nat) (s : Sts)
  | tryT (b : Sts) (c : Nat) (i : Nat) (s : Sts) (c2 : Nat) (s2 : Sts)
inductive Sts where
  | nil
  | cons (e : St) (r : Sts)
end

/-! ### states -/
/-- a field, or a name's value: shared data; an owned list, dict -/
inductive OF where
  | sh (d : D)
  | ol (ds : List D)
  | od (t : Bool) (kvs : List (D × D))
/-- .. an owned instance; the error that a suite holds -/
inductive OD where
  | f (x : OF)
  | oo (c : Nat) (fs : List OF)
  | xc (x : Xc)
abbrev Env := List (Option OD)
def slotE (ρ : Env) (i : Nat) : Option OD := (ρ[i]?).getD none
def OF.d : OF → D
  | .sh d => d
  | .ol ds => .lst ds
  | .od t kvs => .dct t kvs
def OD.d : OD → Option D
  | .f x => some x.d
  | .oo 0 _ => none
  | .oo (c + 1) fs => some (.obj (c + 1) (fs.map OF.d))
  | .xc _ => none
/-- a name's value is no longer its own -/
def unown1 (o : Option OD) : Option OD := match o with
  | some (.f x) => some (.f (.sh x.d))
  | some (.oo 0 _) => none
  | some (.oo (c + 1) fs) => some (.f (.sh (.obj (c + 1) (fs.map OF.d))))
  | o => o
def unown (ρ : Env) : List Nat → Env
  | [] => ρ
  | i :: is => match ρ[i]? with
    | some o => (unown ρ is).set i (unown1 o)
    | none => unown ρ is
def sh (d : D) : Option OD := some (.f (.sh d))
def wipeE (ρ : Env) : List Nat → Env
  | [] => ρ
  | i :: is => (wipeE ρ is).set i none
/-- its answer is a number, a flag, a text -/
def Blt.scal : Blt → Bool
  | .tupleOf => false
  | .listOf => false
  | .min1 => false
  | .max1 => false
  | .sorted => false
  | _ => true
/-- its answer is a new list -/
def Blt.new : Blt → Bool
  | .listOf => true
  | .sorted => true
  | _ => false
/-! nothing in it can change -/
mutual
def froz : D → Bool
  | .tup xs => frozs xs
  | .lst _ => false
  | .scr _ => false
  | .dct _ _ => false
  | .obj _ _ => false
  | .non => true
  | .bl _ => true
  | .int _ => true
  | .str _ => true
def frozs : List D → Bool
  | [] => true
  | x :: xs => froz x && frozs xs
end
/-! the names whose own object may stand in a value -/
mutual
def roots : Ex → List Nat
  | .var i => [i]
  | .and a b => roots a ++ roots b
  | .or a b => roots a ++ roots b
  | .ite _ a b => roots a ++ roots b
  | .tup es => rootsS es
  | .lst es => rootsS es
  | .idx a _ => roots a
  | .fld a _ => roots a
  | .call _ es => rootsS es
  | .callQ _ es => rootsS es
  | .mk _ _ es => rootsS es
  | .bi b es => (match b.scal with
    | true => []
    | false => rootsS es)
  | .lc _ _ it _ e => rootsI it ++ roots e
  | .lc2 _ _ _ it _ _ it2 _ e => rootsI it ++ (rootsI it2 ++ roots e)
  | .bin _ a b => roots a ++ roots b
  | .slL a _ => roots a
  | .slU a _ => roots a
  | .slB a _ _ => roots a
  | _ => []
def rootsS : Exs → List Nat
  | .nil => []
  | .cons e r => roots e ++ rootsS r
  | .star e r => roots e ++ rootsS r
def rootsI : It → List Nat
  | .e a => roots a
  | .en a => roots a
  | .zp a b => roots a ++ roots b
  | _ => []
end
/-- a new list, a new dict where it is one -/
def frs : Ex → Bool
  | .lst _ => true
  | .newD _ => true
  | .lc _ _ _ _ _ => true
  | .lc2 _ _ _ _ _ _ _ _ _ => true
  | .lcN _ _ _ _ _ _ => true
  | .bi b _ => b.new
  | .lR _ => true
  | .bin .add _ _ => true
  | .slL _ _ => true
  | .slU _ _ => true
  | .slB _ _ _ => true
  | .dC _ => true
  | .dZ _ _ => true
  | .callO _ _ => true
  | _ => false
/-- what nobody can change stands in it -/
def argO : D → Bool
  | .scr xs => frozs xs
  | d => froz d
/-- a list of such values -/
def newL : D → R D
  | .lst ds => guardR (frozs ds) (.ok (.lst ds))
  | _ => .stk
/-- the names behind a value's store -/
def keepR (ρ : Env) (rs : List Nat) (x : D) : Env := match froz x with
  | true => ρ
  | false => unown ρ rs
def keepRs (ρ : Env) (rs : List Nat) (xs : List D) : Env := match frozs xs with
  | true => ρ
  | false => unown ρ rs
/-- a new list stands on what its items stand on -/
def keepN (f : Bool) (ρ : Env) (rs : List Nat) (x : D) : Env := match f, x with
  | true, .lst ds => keepRs ρ rs ds
  | _, x => keepR ρ rs x
/-- what the functions give -/
structure Tab where
  fi : Nat → Str → Option Nat
  init : Nat → Option Nat
  fn : Nat → List D → R D
  fuel : Nat
  sub : Nat → Nat → Bool
def varR (ρ : Env) (i : Nat) : R D := match slotE ρ i with
  | some o => R.ofO o.d
  | _ => .stk
mutual
def bindT : Tg → D → Env → R Env
  | .n i, d, ρ => guardR (decide (i < ρ.length)) (.ok (ρ.set i (sh d)))
  | .t gs, .tup ds, ρ => bindTs gs ds ρ
  | _, _, _ => .stk
def bindTs : Tgs → List D → Env → R Env
  | .nil, [], ρ => .ok ρ
  | .cons g r, d :: ds, ρ => (bindT g d ρ).bind fun ρ => bindTs r ds ρ
  | _, _, _ => .stk
end
/-- the elements, one behind another -/
def collect (f : D → R (List D)) : List D → R (List D)
  | [] => .ok []
  | x :: xs => (f x).bind fun ys => (collect f xs).bind fun zs => .ok (ys ++ zs)
def truR (x : D) : R Bool := R.ofO (tru x)
/-- errors inside a comprehension are not said here -/
def noExc {α : Type} (r : R α) : R α := match r with
  | .exc _ => .stk
  | r => r
def putK (kvs : List (D × D)) (k v : D) : List (D × D) := if (kvs.any fun p => eqD p.1 k) then kvs.map fun p => if eqD p.1 k then (p.1, v) else p else kvs ++ [(k, v)]
/-- the dict of pairs -/
def putP (kvs : List (D × D)) : D → List (D × D)
  | .tup [k, v] => putK kvs k v
  | _ => kvs
def dctOf (ys : List D) : List (D × D) := ys.foldl putP []
/-- what a star brings -/
def starD : D → R (List D)
  | .tup xs => .ok xs
  | .lst xs => .ok xs
  | _ => .stk
def isNon : D → Bool
  | .non => true
  | _ => false
mutual
def ev (T : Tab) : Ex → Env → R D
  | .var i, ρ => varR ρ i
  | .cI i, _ => .ok (.int i)
  | .cB b, _ => .ok (.bl b)
  | .cN, _ => .ok .non
  | .cS s, _ => .ok (.str s)
  | .gI _ i, _ => .ok (.int i)
  | .gS _ s, _ => .ok (.str s)
  | .bin o a b, ρ => (ev T a ρ).bind fun x => (ev T b ρ).bind fun y => binD o x y
  | .neg a, ρ => (ev T a ρ).bind fun x => (asInt x).bind fun i => .ok (.int (-i))
  | .cmp o a b, ρ => (ev T a ρ).bind fun x => (ev T b ρ).bind fun y => cmpD o x y
  | .cmp2 o o' a b c, ρ => (ev T a ρ).bind fun x => (ev T b ρ).bind fun y => (cmpD o x y).bind fun r => match r with
    | .bl true => (ev T c ρ).bind fun z => cmpD o' y z
    | .bl false => .ok (.bl false)
    | _ => .stk
  | .cmp3 o o' o2 a b c d, ρ => (ev T a ρ).bind fun x => (ev T b ρ).bind fun y => (cmpD o x y).bind fun r => match r with
    | .bl true => (ev T c ρ).bind fun z => (cmpD o' y z).bind fun r => match r with
      | .bl true => (ev T d ρ).bind fun w => cmpD o2 z w
      | .bl false => .ok (.bl false)
      | _ => .stk
    | .bl false => .ok (.bl false)
    | _ => .stk
  | .isN a, ρ => (ev T a ρ).bind fun x => .ok (.bl (isNon x))
  | .notN a, ρ => (ev T a ρ).bind fun x => .ok (.bl (!isNon x))
  | .and a b, ρ => (ev T a ρ).bind fun x => (truR x).bind fun k => match k with
    | true => ev T b ρ
    | false => .ok x
  | .or a b, ρ => (ev T a ρ).bind fun x => (truR x).bind fun k => match k with
    | true => .ok x
    | false => ev T b ρ
  | .not a, ρ => (ev T a ρ).bind fun x => (truR x).bind fun k => .ok (.bl (!k))
  | .ite c a b, ρ => (ev T c ρ).bind fun x => (truR x).bind fun k => match k with
    | true => ev T a ρ
    | false => ev T b ρ
  | .tup es, ρ => (evs T es ρ).bind fun xs => guardR (decide (xs.length ≤ line)) (.ok (.tup xs))
  | .lst es, ρ => (evs T es ρ).bind fun xs => guardR (decide (xs.length ≤ line)) (.ok (.lst xs))
  | .newD t, _ => .ok (.dct t [])
  | .idx a b, ρ => (ev T a ρ).bind fun x => (ev T b ρ).bind fun y => idxD x y
  | .slL a lo, ρ => (ev T a ρ).bind fun x => (ev T lo ρ).bind fun l => (asInt l).bind fun l => slcD x (some l) none
  | .slU a hi, ρ => (ev T a ρ).bind fun x => (ev T hi ρ).bind fun h => (asInt h).bind fun h => slcD x none (some h)
  | .slB a lo hi, ρ => (ev T a ρ).bind fun x => (ev T lo ρ).bind fun l => (asInt l).bind fun l => (ev T hi ρ).bind fun h => (asInt h).bind fun h => slcD x (some l) (some h)
  | .fld a y, ρ => (ev T a ρ).bind fun x => fldD T.fi x y
  | .call f es, ρ => (evs T es ρ).bind fun xs => T.fn f xs
  | .mk _ f es, ρ => (evs T es ρ).bind fun xs => T.fn f xs
  | .bi b es, ρ => (evs T es ρ).bind fun xs => biD b xs
  | .isi a t, ρ => (ev T a ρ).bind fun x => isD x t
  | .isC a c, ρ => (ev T a ρ).bind fun x => match x with
    | .obj c' _ => .ok (.bl (c == c'))
    | .dct _ _ => .stk
    | .scr _ => .stk
    | _ => .ok (.bl false)
  | .isE i c, ρ => match slotE ρ i with
    | some (.xc (.mk c' _)) => .ok (.bl (T.sub c' c))
    | _ => .stk
  | .fldE i c, ρ => match slotE ρ i with
    | some (.xc (.mk c' [x])) => guardR (decide (c' = c)) (.ok x)
    | _ => .stk
  | .lR it, ρ => (evIt T it ρ).bind fun xs => guardR (decide (xs.length ≤ line)) (.ok (.lst xs))
  | .tR it, ρ => (evIt T it ρ).bind fun xs => guardR (decide (xs.length ≤ line)) (.ok (.tup xs))
  | .lc own g it ifs e, ρ => (evIt T it ρ).bind fun xs => (noExc (collect (fun x => (bindT g x (wipeE (unown ρ (rootsI it)) own)).bind fun ρ => (evAll T ifs ρ).bind fun k => match k with
    | true => (ev T e ρ).bind fun y => .ok [y]
    | false => .ok []) xs)).bind fun ys => guardR (decide (ys.length ≤ line)) (.ok (.lst ys))
  | .lc2 own own2 g it ifs g2 it2 ifs2 e, ρ => (evIt T it ρ).bind fun xs => (noExc (collect (fun x => (bindT g x (wipeE (unown ρ (rootsI it)) own)).bind fun ρ => (evAll T ifs ρ).bind fun k => match k with
    | true => (evIt T it2 ρ).bind fun xs2 => collect (fun x2 => (bindT g2 x2 (wipeE (unown ρ (rootsI it2)) own2)).bind fun ρ => (evAll T ifs2 ρ).bind fun k2 => match k2 with
      | true => (ev T e ρ).bind fun y => .ok [y]
      | false => .ok []) xs2
    | false => .ok []) xs)).bind fun ys => guardR (decide (ys.length ≤ line)) (.ok (.lst ys))
  | .dc own g it ifs ke ve, ρ => (evIt T it ρ).bind fun xs => (noExc (collect (fun x => (bindT g x (wipeE (unown ρ (rootsI it)) own)).bind fun ρ => (evAll T ifs ρ).bind fun k => match k with
    | true => (ev T ke ρ).bind fun y => (ev T ve ρ).bind fun z => guardR (keyOk false y && froz z) (.ok [.tup [y, z]])
    | false => .ok []) xs)).bind fun ys => guardR (decide (ys.length ≤ line)) (.ok (.dct false (dctOf ys)))
  | .lcN own g it ifs cs e, ρ => (evIt T it ρ).bind fun xs => (noExc (collect (fun x => (bindT g x (wipeE (unown ρ (rootsI it)) own)).bind fun ρ => (evAll T ifs ρ).bind fun k => match k with
    | true => evC T cs (fun ρ => (ev T e ρ).bind fun y => guardR (froz y) (.ok [y])) ρ
    | false => .ok []) xs)).bind fun ys => guardR (decide (ys.length ≤ line)) (.ok (.lst ys))
  | .dcN own g it ifs cs ke ve, ρ => (evIt T it ρ).bind fun xs => (noExc (collect (fun x => (bindT g x (wipeE (unown ρ (rootsI it)) own)).bind fun ρ => (evAll T ifs ρ).bind fun k => match k with
    | true => evC T cs (fun ρ => (ev T ke ρ).bind fun y => (ev T ve ρ).bind fun z => guardR (keyOk false y && froz z) (.ok [.tup [y, z]])) ρ
    | false => .ok []) xs)).bind fun ys => guardR (decide (ys.length ≤ line)) (.ok (.dct false (dctOf ys)))
  | .dC a, ρ => (ev T a ρ).bind fun x => match x with
    | .dct false kvs => guardR (frozs (kvs.map Prod.snd)) (.ok (.dct false kvs))
    | _ => .stk
  | .dZ a b, ρ => (ev T a ρ).bind fun x => (ev T b ρ).bind fun y => match x, y with
    | .tup xs, .tup ys => guardR (xs.all (keyOk false) && frozs ys) (.ok (.dct false (dctOf (zipD xs ys))))
    | _, _ => .stk
  | .callQ f es, ρ => (evs T es ρ).bind fun xs => noExc (T.fn f xs)
  | .callO f es, ρ => (evs T es ρ).bind fun xs => guardR (xs.all argO) ((T.fn f xs).bind newL)
/-- the clauses behind the first, one within another -/
def evC (T : Tab) : Cla → (Env → R (List D)) → Env → R (List D)
  | .nil, f, ρ => f ρ
  | .cons own g it ifs r, f, ρ => (evIt T it ρ).bind fun xs => collect (fun x => (bindT g x (wipeE (unown ρ (rootsI it)) own)).bind fun ρ => (evAll T ifs ρ).bind fun k => match k with
    | true => evC T r f ρ
    | false => .ok []) xs
def evs (T : Tab) : Exs → Env → R (List D)
  | .nil, _ => .ok []
  | .cons e r, ρ => (ev T e ρ).bind fun x => (evs T r ρ).bind fun xs => .ok (x :: xs)
  | .star e r, ρ => (ev T e ρ).bind fun x => (starD x).bind fun ys => (evs T r ρ).bind fun xs => .ok (ys ++ xs)
/-- the tests of a comprehension -/
def evAll (T : Tab) : Exs → Env → R Bool
  | .nil, _ => .ok true
  | .cons e r, ρ => (ev T e ρ).bind fun x => (truR x).bind fun k => match k with
    | true => evAll T r ρ
    | false => .ok false
  | .star _ _, _ => .stk
def evIt (T : Tab) : It → Env → R (List D)
  | .e a, ρ => (ev T a ρ).bind itemsD
  | .r1 a, ρ => (ev T a ρ).bind fun x => (asInt x).bind fun j => guardR (smallI j) (.ok (intsD 0 j.toNat))
  | .r2 a b, ρ => (ev T a ρ).bind fun x => (ev T b ρ).bind fun y => (asInt x).bind fun i => (asInt y).bind fun j => guardR (smallI i && smallI j) (.ok (intsD i (j - i).toNat))
  | .en a, ρ => (ev T a ρ).bind fun x => (itemsD x).bind fun xs => .ok (enumFrom 0 xs)
  | .zp a b, ρ => (ev T a ρ).bind fun x => (ev T b ρ).bind fun y => zipOf x y
end

/-! ### statements -/
/-- no name holds an error -/
def noXc : Option OD → Option OD
  | some (.xc _) => none
  | o => o
inductive Fl where
  | nx (ρ : Env)
  | rt (d : D) (ρ : Env)
  | bk (ρ : Env)
  | ct (ρ : Env)
def Fl.wipe (i : Nat) : Fl → Fl
  | .nx ρ => .nx (ρ.set i none)
  | .rt d ρ => .rt d (ρ.set i none)
  | .bk ρ => .bk (ρ.set i none)
  | .ct ρ => .ct (ρ.set i none)
/-- a loop over items -/
def loopF (f : D → Env → R Fl) : List D → Env → R Fl
  | [], ρ => .ok (.nx ρ)
  | x :: xs, ρ => (f x ρ).bind fun r => match r with
    | .nx ρ => loopF f xs ρ
    | .ct ρ => loopF f xs ρ
    | .bk ρ => .ok (.nx ρ)
    | .rt d ρ => .ok (.rt d ρ)
def loopW (c : Env → R Bool) (f : Env → R Fl) : Nat → Env → R Fl
  | 0, _ => .stk
  | n + 1, ρ => (c ρ).bind fun k => match k with
    | false => .ok (.nx ρ)
    | true => (f ρ).bind fun r => match r with
      | .nx ρ => loopW c f n ρ
      | .ct ρ => loopW c f n ρ
      | .bk ρ => .ok (.nx ρ)
      | .rt d ρ => .ok (.rt d ρ)
def ownO (f : Bool) (x : D) : OF := match f with
  | false => .sh x
  | true => (match x with
    | .lst ds => .ol ds
    | .dct t kvs => .od t kvs
    | x => .sh x)
def setF (fs : List OF) (j : Nat) (o : OF) : List OF := match decide (j < fs.length) with
  | true => fs.set j o
  | false => fs ++ [o]
/-- a stored list, dict within an owned name -/
def appO (ρ : Env) (i : Nat) (xs : List D) : R Env := match slotE ρ i with
  | some (.f (.ol ds)) => guardR (decide (ds.length + xs.length ≤ line)) (.ok (ρ.set i (some (.f (.ol (ds ++ xs))))))
  | _ => .stk
def subO (o : OF) (k x : D) : R OF := match o, k with
  | .sh _, _ => .stk
  | .ol ds, .int j => (R.ofO (L2.ixN ds.length j)).bind fun n => .ok (.ol (ds.set n x))
  | .od t kvs, k => guardR (keyOk t k && decide (kvs.length < line)) (.ok (.od t (putK kvs k x)))
  | _, _ => .stk
mutual
def rn (T : Tab) : St → Env → R Fl
  | .asg (.n i) e, ρ => (ev T e ρ).bind fun x => guardR (decide (i < ρ.length)) (.ok (.nx ((keepN (frs e) ρ (roots e) x).set i (some (.f (ownO (frs e) x))))))
  | .asg g e, ρ => (ev T e ρ).bind fun x => (bindT g x (keepR ρ (roots e) x)).bind fun ρ => .ok (.nx ρ)
  | .par i j a b, ρ => (ev T a ρ).bind fun x => (ev T b (keepR ρ (roots a) x)).bind fun y => guardR (decide (i < ρ.length) && decide (j < ρ.length)) (.ok (.nx (((keepR (keepR ρ (roots a) x) (roots b) y).set i (sh x)).set j (sh y))))
  | .app i e, ρ => (match slotE ρ i with
    | some (.f (.ol _)) => (ev T e ρ).bind fun x => (appO (keepR ρ (roots e) x) i [x]).bind fun ρ => .ok (.nx ρ)
    | _ => .stk)
  | .ext i e, ρ => (match slotE ρ i with
    | some (.f (.ol _)) => (ev T e ρ).bind fun x => (match x with
      | .lst xs => (appO (keepR ρ (roots e) x) i xs).bind fun ρ => .ok (.nx ρ)
      | _ => .stk)
    | _ => .stk)
  | .sub i k e, ρ => (ev T e ρ).bind fun x => (match slotE (keepR ρ (roots e) x) i with
    | some (.f o) => (ev T k ρ).bind fun y => guardR (froz y) ((subO o y x).bind fun o' => .ok (.nx ((keepR ρ (roots e) x).set i (some (.f o')))))
    | _ => .stk)
  | .fset y e, ρ => (ev T e ρ).bind fun x => match slotE (keepR ρ (roots e) x) 0 with
    | some (.oo c fs) => (R.ofO (T.fi c y)).bind fun j => guardR (decide (j ≤ fs.length) && decide (fs.length < 100)) (.ok (.nx ((keepR ρ (roots e) x).set 0 (some (.oo c (setF fs j (ownO (frs e) x)))))))
    | _ => .stk
  | .fsub z k e, ρ => (ev T e ρ).bind fun x => (match slotE (keepR ρ (roots e) x) 0 with
    | some (.oo c fs) => (R.ofO (T.fi c z)).bind fun j => (match fs[j]? with
      | some o => (ev T k ρ).bind fun y => guardR (froz y) ((subO o y x).bind fun o' => .ok (.nx ((keepR ρ (roots e) x).set 0 (some (.oo c (fs.set j o'))))))
      | none => .stk)
    | _ => .stk)
  | .aug i o e, ρ => (varR ρ i).bind fun x => (ev T e ρ).bind fun y => (match x, y with
    | .int a, .int b => (binD o (.int a) (.int b)).bind fun z => guardR (decide (i < ρ.length)) (.ok (.nx (ρ.set i (sh z))))
    | _, _ => .stk)
  | .nev, _ => .stk
  | .ife c a b, ρ => (ev T c ρ).bind fun x => (truR x).bind fun k => match k with
    | true => rns T a ρ
    | false => rns T b ρ
  | .whl c b, ρ => loopW (fun ρ => (ev T c ρ).bind truR) (fun ρ => rns T b ρ) T.fuel ρ
  | .fr g it b, ρ => (evIt T it ρ).bind fun xs => loopF (fun x ρ => (bindT g x ρ).bind fun ρ => rns T b ρ) xs (unown ρ (rootsI it))
  | .frD g j b, ρ => (match slotE ρ j with
    | some (.f (.sh (.dct false kvs))) => noExc (loopF (fun x ρ => (bindT g x ρ).bind fun ρ => rns T b ρ) (kvs.map Prod.fst) ρ)
    | _ => .stk)
  | .ret e, ρ => (ev T e ρ).bind fun x => .ok (.rt x (keepR ρ (roots e) x))
  | .retN, ρ => .ok (.rt .non ρ)
  | .rse c es, ρ => (match es with
    | .nil => .exc (.mk c [])
    | .cons e .nil => (ev T e ρ).bind fun x => guardR (froz x) (.exc (.mk c [x]))
    | _ => .stk)
  | .exp e, ρ => (ev T e ρ).bind fun _ => .ok (.nx ρ)
  | .pas, ρ => .ok (.nx ρ)
  | .brk, ρ => .ok (.bk ρ)
  | .cnt, ρ => .ok (.ct ρ)
  | .tryA b c i s, ρ => (match rns T b ρ with
    | .exc (.mk k as) => (match T.sub k c with
      | true => (noExc (rns T s (ρ.set i (some (.xc (.mk k as)))))).bind fun f => (match f with
        | .rt d ρ' => .ok (.rt d (ρ'.map fun _ => none))
        | .nx ρ' => .ok (.nx ((ρ'.set i none).map noXc))
        | _ => .stk)
      | false => .exc (.mk k as))
    | r => r)
  | .tryT b c i s c2 s2, ρ => (match rns T b ρ with
    | .exc (.mk k as) => (match T.sub k c with
      | true => (noExc (rns T s (ρ.set i (some (.xc (.mk k as)))))).bind fun f => (match f with
        | .rt d ρ' => .ok (.rt d (ρ'.map fun _ => none))
        | .nx ρ' => .ok (.nx ((ρ'.set i none).map noXc))
        | _ => .stk)
      | false => (match T.sub k c2 with
        | true => (noExc (rns T s2 ρ)).bind fun f => (match f with
          | .rt d ρ' => .ok (.rt d (ρ'.map fun _ => none))
          | .nx ρ' => .ok (.nx (ρ'.map noXc))
          | _ => .stk)
        | false => .exc (.mk k as)))
    | r => r)
  | .tryO b c s, ρ => (match rns T b ρ with
    | .exc (.mk k as) => (match T.sub k c with
      | true => (noExc (rns T s ρ)).bind fun f => (match f with
        | .rt d ρ' => .ok (.rt d (ρ'.map fun _ => none))
        | .nx ρ' => .ok (.nx (ρ'.map noXc))
        | _ => .stk)
      | false => .exc (.mk k as))
    | r => r)
def rns (T : Tab) : Sts → Env → R Fl
  | .nil, ρ => .ok (.nx ρ)
  | .cons s r, ρ => (rn T s ρ).bind fun f => match f with
    | .nx ρ => rns T r ρ
    | f => .ok f
end

/-! ### functions -/
def idxS : List Str → Str → Option Nat
  | [], _ => none
  | x :: xs, y => match decide (x = y) with
    | true => some 0
    | false => (idxS xs y).map (· + 1)
theorem idxS_ok : ∀ {xs : List Str} {y : Str} {j : Nat}, idxS xs y = some j → xs[j]? = some y
  | x :: xs, y, j, h => by
    rw [idxS] at h
    cases e : decide (x = y) with
    | true =>
      rw [e] at h
      cases h
      rw [of_decide_eq_true e]
      rfl
    | false =>
      rw [e] at h
      obtain ⟨k, h1, h2⟩ := Option.map_eq_some_iff.mp h
      subst h2
      show (x :: xs)[k + 1]? = some y
      rw [List.getElem?_cons_succ]
      exact idxS_ok (xs := xs) h1
/-- np parameters, n names in all; cls: it is the __init__ of that class -/
structure FnI where
  np : Nat
  n : Nat
  cls : Option Nat
  body : Sts
  /-- what it tells is known otherwise -/
  orc : Option (List D → R D)
def FnI.start (f : FnI) (ds : List D) : Env := match f.cls with
  | none => ds.map sh ++ List.replicate (f.n - f.np) none
  | some c => some (.oo c []) :: (ds.map sh ++ List.replicate (f.n - f.np) none)
/-- the last field of the first class (Book) begins as None -/
def memoOk : List OF → Bool
  | [_, _, _, _, .sh .non] => true
  | _ => false
def finO (ρ : Env) : R D := match slotE ρ 0 with
  | some (.oo 0 fs) => guardR (memoOk fs) (.ok (.obj 0 (fs.map OF.d)))
  | some (.oo (c + 1) fs) => .ok (.obj (c + 1) (fs.map OF.d))
  | _ => .stk
def FnI.fin (f : FnI) (r : Fl) : R D := match f.cls, r with
  | none, .nx _ => .ok .non
  | none, .rt d _ => .ok d
  | some _, .nx ρ => finO ρ
  | some _, .rt .non ρ => finO ρ
  | _, _ => .stk
def FnI.self (f : FnI) : Nat := match f.cls with
  | none => 0
  | some _ => 1
def FnI.run (f : FnI) (T : Tab) (ds : List D) : R D := match f.orc with
  | none => guardR (decide (ds.length + f.self = f.np)) ((rns T f.body (f.start ds)).bind f.fin)
  | some F => F ds
/-- the functions of a text, k calls deep -/
def callF (B : Nat → Option FnI) (fi : Nat → Str → Option Nat) (sub : Nat → Nat → Bool) (fuel : Nat) : Nat → Nat → List D → R D
  | 0, _, _ => .stk
  | k + 1, g, ds => match B g with
    | some f => f.run ⟨fi, fun f => (B f).bind FnI.cls, callF B fi sub fuel k, fuel, sub⟩ ds
    | none => .stk
/-- what it tells -/
def knF (F : List D → R D) : List D → R D
  | [.obj 0 fs] => (noExc (F [.obj 0 fs])).bind fun r => .ok (.bl (isNon r))
  | _ => .stk
theorem knF_arg {F : List D → R D} {ds : List D} (h : knF F ds ≠ .stk) : ∃ es, ds = [.obj 0 es] := by
  unfold knF at h
  split at h
  · exact ⟨_, rfl⟩
  · exact absurd rfl h
/-- the field, once filled -/
def knB (F : List D → R D) (d : D) : Bool := match knF F [d] with
  | .ok (.bl b) => b
  | _ => false
/-- a table all of whose functions are looked at -/
def noOrc (B : Nat → Option FnI) (f : Nat) : Option FnI := (B f).map fun b => ⟨b.np, b.n, b.cls, b.body, none⟩
theorem noOrc_ok (B : Nat → Option FnI) : ∀ f b, noOrc B f = some b → b.orc = none := fun f b h => by
  unfold noOrc at h
  obtain ⟨x, _, e⟩ := Option.map_eq_some_iff.mp h
  subst e
  rfl
def fuK : Nat := 1000
end PD
end

section
set_option Elab.async false
set_option linter.all false
set_option maxRecDepth 100000
/-! PD, part 2: which values of the layer's heap stand for which data. -/
namespace PD
open PySem PySem.Spec PyProof.Rows L2

/-- the written part, the classes -/
structure Sg where
  K : PySem.W.Frag
  ca : Nat → Addr
  cf : Nat → List Str
  ea : Nat → Addr
  ef : Nat → Str
  en : Nat
  /-- whether a book is knit -/
  kn : D → Bool

def keyD : Key → D
  | .inl i => .int i
  | .inr s => .str s
/-- the law's script: frozen, or an object of the written part -/
def Scr (G : Sg) (H : Hp) (a : Addr) (xs : List V) : Prop := (∃ o, H a = some (.frz o (.lst xs))) ∨
  ∃ (o : Obj) (its : Array Value) (n : Nat), G.K.lookup a = some o ∧ o.cls = .type "list" ∧ o.dict = none ∧ o.data = .seq its n ∧ its.size ≤ sizeLine ∧ Vals xs its.toList
/-- the field of the first class (Book) that is filled later: None or what G.kn tells -/
def memoF : Str := "known_knit"
def bkA (a C dx : Addr) : HO := .ext fun h => h.get? a = some (PySem.W.instObj C dx)
def bkD (dx : Addr) (fs : List (Str × V)) (β : Bool) : HO := .ext fun h => ∃ (mA : Str → Option Value) (b : V), h.Ns1 dx mA ∧ (b = .non ∨ b = .bl β) ∧ (∀ f, RelO ((fs ++ [(memoF, b)]).lookup f) (mA f)) ∧ PySem.Within mA ((fs ++ [(memoF, b)]).map (·.1))
section
variable (G : Sg) (A : Addr → Prop) (H : Hp)
mutual
inductive Has : V → D → Prop
  | non : Has .non .non
  | bl (b : Bool) : Has (.bl b) (.bl b)
  | int (i : Int) : Has (.int i) (.int i)
  | str (s : Str) : Has (.str s) (.str s)
  | tup {a : Addr} {xs : List V} {ds : List D} : H a = some (.tup xs) → HasL xs ds → Has (.ref a) (.tup ds)
  | lst {a : Addr} {xs : List V} {ds : List D} : A a → H a = some (.lst xs) → HasL xs ds → Has (.ref a) (.lst ds)
  | scr {a : Addr} {xs : List V} {ds : List D} : Scr G H a xs → HasL xs ds → Has (.ref a) (.scr ds)
  | dK {a : Addr} {kvs : List (Key × V)} {ds : List (D × D)} : A a → Rd H a (.dK kvs) → ds.map Prod.fst = kvs.map (fun p => keyD p.1) → HasL (kvs.map Prod.snd) (ds.map Prod.snd) → Has (.ref a) (.dct false ds)
  | dT {a : Addr} {kvs : List (List Key × V)} {ds : List (D × D)} : A a → Rd H a (.dT kvs) → ds.map Prod.fst = kvs.map (fun p => .tup (p.1.map keyD)) → HasL (kvs.map Prod.snd) (ds.map Prod.snd) → Has (.ref a) (.dct true ds)
  | obj {a C dx : Addr} {fs : List (Str × V)} {c : Nat} {ds : List D} : A a → H a = some (.ins C dx fs) → C = G.ca c → fs.map Prod.fst = (G.cf c).take ds.length → HasL (fs.map Prod.snd) ds → c ≠ 0 → Has (.ref a) (.obj c ds)
  | bok {a C dx : Addr} {fs : List (Str × V)} {c : Nat} {ds : List D} : A a → A dx → H a = some (bkA a C dx) → H dx = some (bkD dx fs (G.kn (.obj 0 ds))) → dx ≠ a → C = G.ca 0 → fs.map Prod.fst ++ [memoF] = G.cf 0 → c = 0 → HasL (fs.map Prod.snd ++ [V.non]) ds → Has (.ref a) (.obj c ds)
inductive HasL : List V → List D → Prop
  | nil : HasL [] []
  | cons {v : V} {vs : List V} {d : D} {ds : List D} : Has v d → HasL vs ds → HasL (v :: vs) (d :: ds)
end
end
section
variable {G : Sg} {A A' : Addr → Prop} {H H' : Hp}
theorem Scr.sq {K : PySem.W.Frag} {a : Addr} {xs : List V} (hG : K = G.K) (h : Scr G H a xs) : SqL K H a xs := by
  subst hG
  exact h.imp (fun ⟨o, z⟩ => .inr ⟨o, z⟩) id
theorem sqT_same {K : PySem.W.Frag} {a : Addr} {xs : List V} (e : Same H H') (h : SqT K H a xs) : SqT K H' a xs := by
  rcases h with (h | ⟨o, h⟩) | h
  · exact .inl (.inl (e _ _ h))
  · exact .inl (.inr ⟨o, e _ _ h⟩)
  · exact .inr h
theorem rd_same {a : Addr} {o : HO} (e : Same H H') (h : Rd H a o) : Rd H' a o := by
  rcases h with h | ⟨ob, h⟩
  · exact .inl (e _ _ h)
  · exact .inr ⟨ob, e _ _ h⟩
mutual
theorem Has.mono (hA : ∀ a, A a → A' a) (hH : Same H H') : ∀ {d : D} {v : V}, Has G A H v d → Has G A' H' v d
  | .non, _, h => by cases h; exact .non
  | .bl b, _, h => by cases h; exact .bl b
  | .int i, _, h => by cases h; exact .int i
  | .str s, _, h => by cases h; exact .str s
  | .tup ds, _, h => by
    cases h with
    | tup h1 h2 => exact .tup (hH _ _ h1) (HasL.mono hA hH h2)
  | .scr ds, _, h => by
    cases h with
    | scr h1 h2 => exact .scr (h1.imp (fun ⟨o, z⟩ => ⟨o, hH _ _ z⟩) id) (HasL.mono hA hH h2)
  | .lst ds, _, h => by
    cases h with
    | lst h0 h1 h2 => exact .lst (hA _ h0) (hH _ _ h1) (HasL.mono hA hH h2)
  | .dct t ds, _, h => by
    cases h with
    | dK h0 h1 h2 h3 => exact .dK (hA _ h0) (rd_same hH h1) h2 (HasL.monoP hA hH h3)
    | dT h0 h1 h2 h3 => exact .dT (hA _ h0) (rd_same hH h1) h2 (HasL.monoP hA hH h3)
  | .obj c ds, _, h => by
    cases h with
    | obj h0 h1 h2 h3 h4 h5 => exact .obj (hA _ h0) (hH _ _ h1) h2 h3 (HasL.mono hA hH h4) h5
    | bok h0 h1 h2 h3 h4 h5 h6 h7 h8 => exact .bok (hA _ h0) (hA _ h1) (hH _ _ h2) (hH _ _ h3) h4 h5 h6 h7 (HasL.mono hA hH h8)
theorem HasL.mono (hA : ∀ a, A a → A' a) (hH : Same H H') : ∀ {ds : List D} {vs : List V}, HasL G A H vs ds → HasL G A' H' vs ds
  | [], _, h => by cases h; exact .nil
  | d :: ds, _, h => by
    cases h with
    | cons h1 h2 => exact .cons (Has.mono hA hH h1) (HasL.mono hA hH h2)
theorem HasL.monoP (hA : ∀ a, A a → A' a) (hH : Same H H') : ∀ {ds : List (D × D)} {vs : List V}, HasL G A H vs (ds.map Prod.snd) → HasL G A' H' vs (ds.map Prod.snd)
  | [], _, h => by cases h; exact .nil
  | (k, d) :: ds, _, h => by
    cases h with
    | cons h1 h2 => exact .cons (Has.mono hA hH h1) (HasL.monoP hA hH h2)
end
theorem HasL.length {vs : List V} {ds : List D} (h : HasL G A H vs ds) : vs.length = ds.length := by
  induction ds generalizing vs with
  | nil => cases h; rfl
  | cons d ds ih =>
    cases h with
    | cons h1 h2 => rw [List.length_cons, List.length_cons, ih h2]
theorem HasL.append {vs ws : List V} {ds es : List D} (h : HasL G A H vs ds) (h' : HasL G A H ws es) : HasL G A H (vs ++ ws) (ds ++ es) := by
  induction ds generalizing vs with
  | nil => cases h; exact h'
  | cons d ds ih =>
    cases h with
    | cons h1 h2 => exact .cons h1 (ih h2)
theorem HasL.one {v : V} {d : D} (h : Has G A H v d) : HasL G A H [v] [d] := .cons h .nil
theorem HasL.get {vs : List V} {ds : List D} {i : Nat} {d : D} (h : HasL G A H vs ds) (e : ds[i]? = some d) : ∃ v, vs[i]? = some v ∧ Has G A H v d := by
  induction ds generalizing vs i with
  | nil => simp at e
  | cons x ds ih =>
    cases h with
    | cons h1 h2 =>
      cases i with
      | zero =>
        simp at e
        subst e
        exact ⟨_, rfl, h1⟩
      | succ i =>
        obtain ⟨v, e1, e2⟩ := ih h2 (by simpa using e)
        exact ⟨v, by simpa using e1, e2⟩
theorem HasL.getV {vs : List V} {ds : List D} {i : Nat} {v : V} (h : HasL G A H vs ds) (e : vs[i]? = some v) : ∃ d, ds[i]? = some d ∧ Has G A H v d := by
  induction ds generalizing vs i with
  | nil => cases h; simp at e
  | cons x ds ih =>
    cases h with
    | cons h1 h2 =>
      cases i with
      | zero =>
        simp at e
        subst e
        exact ⟨_, rfl, h1⟩
      | succ i =>
        obtain ⟨d, e1, e2⟩ := ih h2 (by simpa using e)
        exact ⟨d, by simpa using e1, e2⟩
theorem HasL.set {vs : List V} {ds : List D} {v : V} {d : D} (i : Nat) (h : HasL G A H vs ds) (hv : Has G A H v d) : HasL G A H (vs.set i v) (ds.set i d) := by
  induction ds generalizing vs i with
  | nil => cases h; exact .nil
  | cons x ds ih =>
    cases h with
    | cons h1 h2 =>
      cases i with
      | zero => exact .cons hv h2
      | succ i => exact .cons h1 (ih i h2)
theorem HasL.take {vs : List V} {ds : List D} (n : Nat) (h : HasL G A H vs ds) : HasL G A H (vs.take n) (ds.take n) := by
  induction ds generalizing vs n with
  | nil => cases h; simp; exact .nil
  | cons x ds ih =>
    cases h with
    | cons h1 h2 =>
      cases n with
      | zero => exact .nil
      | succ n => exact .cons h1 (ih n h2)
theorem HasL.drop {vs : List V} {ds : List D} (n : Nat) (h : HasL G A H vs ds) : HasL G A H (vs.drop n) (ds.drop n) := by
  induction ds generalizing vs n with
  | nil => cases h; simp; exact .nil
  | cons x ds ih =>
    cases h with
    | cons h1 h2 =>
      cases n with
      | zero => exact .cons h1 h2
      | succ n => exact ih n h2
/-! ### an object that no datum of ours stands on is written -/
theorem tup_ne {p a : Addr} {xs : List V} (mu : Mut (H p)) (h : H a = some (.tup xs)) : a ≠ p := fun q => by
  subst q
  rw [h] at mu
  exact mu
theorem frz_ne {p a : Addr} {o : Obj} {u : HO} (mu : Mut (H p)) (h : H a = some (.frz o u)) : a ≠ p := fun q => by
  subst q
  rw [h] at mu
  exact mu
theorem rd_upd {p a : Addr} {o u : HO} (ne : a ≠ p) (h : Rd H a u) : Rd (upd H p o) a u := by
  rcases h with h | ⟨ob, h⟩
  · exact .inl (by rw [upd_ne ne]; exact h)
  · exact .inr ⟨ob, by rw [upd_ne ne]; exact h⟩
mutual
theorem Has.upd {p : Addr} {o : HO} (mu : Mut (H p)) (nA : ¬ A p) : ∀ {d : D} {v : V}, Has G A H v d → Has G A (upd H p o) v d
  | .non, _, h => by cases h; exact .non
  | .bl b, _, h => by cases h; exact .bl b
  | .int i, _, h => by cases h; exact .int i
  | .str s, _, h => by cases h; exact .str s
  | .tup ds, _, h => by
    cases h with
    | tup h1 h2 => exact .tup (by rw [upd_ne (tup_ne mu h1)]; exact h1) (HasL.upd mu nA h2)
  | .scr ds, _, h => by
    cases h with
    | scr h1 h2 => exact .scr (h1.imp (fun ⟨o, z⟩ => ⟨o, by rw [upd_ne (frz_ne mu z)]; exact z⟩) id) (HasL.upd mu nA h2)
  | .lst ds, _, h => by
    cases h with
    | @lst a xs _ h0 h1 h2 =>
      have ne : a ≠ p := fun e => nA (by rw [← e]; exact h0)
      exact .lst h0 (by rw [upd_ne ne]; exact h1) (HasL.upd mu nA h2)
  | .dct t ds, _, h => by
    cases h with
    | dK h0 h1 h2 h3 => exact .dK h0 (rd_upd (fun e => nA (e ▸ h0)) h1) h2 (HasL.updP mu nA h3)
    | dT h0 h1 h2 h3 => exact .dT h0 (rd_upd (fun e => nA (e ▸ h0)) h1) h2 (HasL.updP mu nA h3)
  | .obj c ds, _, h => by
    cases h with
    | @obj a C dx fs _ _ h0 h1 h2 h3 h4 h5 =>
      have ne : a ≠ p := fun e => nA (by rw [← e]; exact h0)
      exact .obj h0 (by rw [upd_ne ne]; exact h1) h2 h3 (HasL.upd mu nA h4) h5
    | @bok a C dx fs _ _ h0 h1 h2 h3 h4 h5 h6 h7 h8 =>
      have ne : a ≠ p := fun e => nA (by rw [← e]; exact h0)
      have ne' : dx ≠ p := fun e => nA (by rw [← e]; exact h1)
      exact .bok h0 h1 (by rw [upd_ne ne]; exact h2) (by rw [upd_ne ne']; exact h3) h4 h5 h6 h7 (HasL.upd mu nA h8)
theorem HasL.upd {p : Addr} {o : HO} (mu : Mut (H p)) (nA : ¬ A p) : ∀ {ds : List D} {vs : List V}, HasL G A H vs ds → HasL G A (upd H p o) vs ds
  | [], _, h => by cases h; exact .nil
  | d :: ds, _, h => by
    cases h with
    | cons h1 h2 => exact .cons (Has.upd mu nA h1) (HasL.upd mu nA h2)
theorem HasL.updP {p : Addr} {o : HO} (mu : Mut (H p)) (nA : ¬ A p) : ∀ {ds : List (D × D)} {vs : List V}, HasL G A H vs (ds.map Prod.snd) → HasL G A (upd H p o) vs (ds.map Prod.snd)
  | [], _, h => by cases h; exact .nil
  | (k, d) :: ds, _, h => by
    cases h with
    | cons h1 h2 => exact .cons (Has.upd mu nA h1) (HasL.updP mu nA h2)
end
/-! ### data in which nothing changes stand on nothing -/
mutual
theorem Has.froz : ∀ {d : D} {v : V}, froz d = true → Has G A H v d → Has G A' H v d
  | .non, _, _, h => by cases h; exact .non
  | .bl b, _, _, h => by cases h; exact .bl b
  | .int i, _, _, h => by cases h; exact .int i
  | .str s, _, _, h => by cases h; exact .str s
  | .tup ds, _, f, h => by
    cases h with
    | tup h1 h2 => exact .tup h1 (HasL.froz (by simpa [PD.froz] using f) h2)
  | .lst ds, _, f, h => by simp [PD.froz] at f
  | .scr ds, _, f, h => by simp [PD.froz] at f
  | .dct t ds, _, f, h => by simp [PD.froz] at f
  | .obj c ds, _, f, h => by simp [PD.froz] at f
theorem HasL.froz : ∀ {ds : List D} {vs : List V}, frozs ds = true → HasL G A H vs ds → HasL G A' H vs ds
  | [], _, _, h => by cases h; exact .nil
  | d :: ds, _, f, h => by
    have f' : PD.froz d = true ∧ frozs ds = true := by simpa [PD.frozs] using f
    cases h with
    | cons h1 h2 => exact .cons (Has.froz f'.1 h1) (HasL.froz f'.2 h2)
end
/-! ### it stands on what is there -/
mutual
theorem Has.there : ∀ {d : D} {v : V}, Has G A H v d → Has G (fun q => A q ∧ (H q).isSome = true) H v d
  | .non, _, h => by cases h; exact .non
  | .bl b, _, h => by cases h; exact .bl b
  | .int i, _, h => by cases h; exact .int i
  | .str s, _, h => by cases h; exact .str s
  | .tup ds, _, h => by
    cases h with
    | tup h1 h2 => exact .tup h1 (HasL.there h2)
  | .scr ds, _, h => by
    cases h with
    | scr h1 h2 => exact .scr h1 (HasL.there h2)
  | .lst ds, _, h => by
    cases h with
    | lst h0 h1 h2 => exact .lst ⟨h0, by rw [h1]; rfl⟩ h1 (HasL.there h2)
  | .dct t ds, _, h => by
    cases h with
    | dK h0 h1 h2 h3 => exact .dK ⟨h0, by rcases h1 with h | ⟨_, h⟩ <;> rw [h] <;> rfl⟩ h1 h2 (HasL.thereP h3)
    | dT h0 h1 h2 h3 => exact .dT ⟨h0, by rcases h1 with h | ⟨_, h⟩ <;> rw [h] <;> rfl⟩ h1 h2 (HasL.thereP h3)
  | .obj c ds, _, h => by
    cases h with
    | obj h0 h1 h2 h3 h4 h5 => exact .obj ⟨h0, by rw [h1]; rfl⟩ h1 h2 h3 (HasL.there h4) h5
    | bok h0 h1 h2 h3 h4 h5 h6 h7 h8 => exact .bok ⟨h0, by rw [h2]; rfl⟩ ⟨h1, by rw [h3]; rfl⟩ h2 h3 h4 h5 h6 h7 (HasL.there h8)
theorem HasL.there : ∀ {ds : List D} {vs : List V}, HasL G A H vs ds → HasL G (fun q => A q ∧ (H q).isSome = true) H vs ds
  | [], _, h => by cases h; exact .nil
  | d :: ds, _, h => by
    cases h with
    | cons h1 h2 => exact .cons (Has.there h1) (HasL.there h2)
theorem HasL.thereP : ∀ {ds : List (D × D)} {vs : List V}, HasL G A H vs (ds.map Prod.snd) → HasL G (fun q => A q ∧ (H q).isSome = true) H vs (ds.map Prod.snd)
  | [], _, h => by cases h; exact .nil
  | (k, d) :: ds, _, h => by
    cases h with
    | cons h1 h2 => exact .cons (Has.there h1) (HasL.thereP h2)
end
/-! ### as the library's data -/
mutual
theorem Has.dp : ∀ {d : D} {v : V}, plain d = true → Has G A H v d → Dp G.K H v (toP d)
  | .non, _, _, h => by cases h; rw [toP]; exact .non
  | .bl b, _, _, h => by cases h; rw [toP]; exact .bl b
  | .int i, _, _, h => by cases h; rw [toP]; exact .int i
  | .str s, _, _, h => by cases h; rw [toP]; exact .str s
  | .tup ds, _, f, h => by
    cases h with
    | tup h1 h2 => rw [toP]; exact .tup (.of h1) (HasL.dp (by simpa [PD.plain] using f) h2)
  | .lst ds, _, f, h => by
    cases h with
    | lst _ h1 h2 => rw [toP]; exact .lst (.of h1) (HasL.dp (by simpa [PD.plain] using f) h2)
  | .dct t ds, _, f, h => by simp [PD.plain] at f
  | .scr ds, _, f, h => by simp [PD.plain] at f
  | .obj c ds, _, f, h => by simp [PD.plain] at f
theorem HasL.dp : ∀ {ds : List D} {vs : List V}, plains ds = true → HasL G A H vs ds → DpAll G.K H vs (toPs ds)
  | [], _, _, h => by cases h; rw [toPs]; exact .nil
  | d :: ds, _, f, h => by
    have f' : PD.plain d = true ∧ plains ds = true := by simpa [PD.plains] using f
    cases h with
    | cons h1 h2 => rw [toPs]; exact .cons (Has.dp f'.1 h1) (HasL.dp f'.2 h2)
end
end
mutual
theorem toP_plain : ∀ d : D, plain d = true → (toP d).plain = true
  | .non, _ => by simp [toP, PyData.plain]
  | .bl _, _ => by simp [toP, PyData.plain]
  | .int _, _ => by simp [toP, PyData.plain]
  | .str _, _ => by simp [toP, PyData.plain]
  | .tup ds, f => by
    rw [toP, PyData.plain]
    exact toPs_plain ds (by simpa [PD.plain] using f)
  | .lst ds, f => by
    rw [toP, PyData.plain]
    exact toPs_plain ds (by simpa [PD.plain] using f)
  | .dct _ _, f => by simp [PD.plain] at f
  | .scr _, f => by simp [PD.plain] at f
  | .obj _ _, f => by simp [PD.plain] at f
theorem toPs_plain : ∀ ds : List D, plains ds = true → PyData.plainAll (toPs ds) = true
  | [], _ => by simp [toPs, PyData.plainAll]
  | d :: ds, f => by
    have f' : PD.plain d = true ∧ plains ds = true := by simpa [PD.plains] using f
    rw [toPs, PyData.plainAll, toP_plain d f'.1, toPs_plain ds f'.2]
    rfl
end
mutual
theorem toP_inj : ∀ x y : D, plain x = true → plain y = true → toP x = toP y → x = y
  | .non, y, _, hy, e => by cases y <;> simp_all [toP, PD.plain]
  | .bl _, y, _, hy, e => by cases y <;> simp_all [toP, PD.plain]
  | .int _, y, _, hy, e => by cases y <;> simp_all [toP, PD.plain]
  | .str _, y, _, hy, e => by cases y <;> simp_all [toP, PD.plain]
  | .tup xs, y, hx, hy, e => by
    cases y with
    | tup ys =>
      rw [toP, toP] at e
      injection e with e
      rw [toPs_inj xs ys (by simpa [PD.plain] using hx) (by simpa [PD.plain] using hy) e]
    | _ => simp_all [toP, PD.plain]
  | .lst xs, y, hx, hy, e => by
    cases y with
    | lst ys =>
      rw [toP, toP] at e
      injection e with e
      rw [toPs_inj xs ys (by simpa [PD.plain] using hx) (by simpa [PD.plain] using hy) e]
    | _ => simp_all [toP, PD.plain]
  | .dct _ _, y, hx, _, _ => by simp [PD.plain] at hx
  | .scr _, y, hx, _, _ => by simp [PD.plain] at hx
  | .obj _ _, y, hx, _, _ => by simp [PD.plain] at hx
theorem toPs_inj : ∀ xs ys : List D, plains xs = true → plains ys = true → toPs xs = toPs ys → xs = ys
  | [], [], _, _, _ => rfl
  | [], _ :: _, _, _, e => by simp [toPs] at e
  | _ :: _, [], _, _, e => by simp [toPs] at e
  | x :: xs, y :: ys, hx, hy, e => by
    have f : PD.plain x = true ∧ plains xs = true := by simpa [PD.plains] using hx
    have f' : PD.plain y = true ∧ plains ys = true := by simpa [PD.plains] using hy
    rw [toPs, toPs] at e
    injection e with e1 e2
    rw [toP_inj x y f.1 f'.1 e1, toPs_inj xs ys f.2 f'.2 e2]
end
end PD
end

section
set_option Elab.async false
set_option linter.all false
set_option maxRecDepth 100000
set_option maxHeartbeats 2000000
/-! PD, part 2b: defs that may be called within an except suite: they raise nothing. -/
namespace PD
open PySem PySem.Spec PyProof.Rows L2
/-- such a def's promise; z is an object that stands pinned -/
structure FnP (P : Program) (w : World) (K : PySem.W.Frag) (mg : Str → Option Value) (base : Heap) (k : Nat) (f : Addr) (fd : FuncData) (ps : List Str) (sp : Sp) : Prop where
  ln : ∀ vs H Q E, sp vs H Q E → vs.length = ps.length
  go : ∀ (A : Around) (up : List PySem.Env) (s : Shared) (H : Hp) (ar : Args) (us : List Value) (vs : List V) (Q : VK) (E : XK) (z : Addr × Obj), L2H.RoomH k A → L2H.PinOk up H s z → Env0 P w K mg base A up s H → BindsTo s fd ar (ps.zip us) → Vals vs us → sp vs H Q E → codeAny (model P w) A (.call (.ref f) ar) (CR (L2.CX P w) up P w H s Q E) s
theorem fnP_of {P : Program} {w : World} {K : PySem.W.Frag} {mg : Str → Option Value} {base : Heap} {k : Nat} {f : Addr} {fd : FuncData} {x qual : Str} {pa : Arguments} {body : List Stmt} {scope : Scope} {N ps : List Str} {sp : Sp} (F : FunD K x qual pa body scope [] [] f fd) (S : FnScope N ps scope) (ln : ∀ vs H Q E, sp vs H Q E → vs.length = ps.length)
    (hb : ∀ (cdv : Value) (A : Around) (up : List PySem.Env) (s : Shared) (H : Hp) (vs : List V) (Q : VK) (E : XK) (z : Addr × Obj), L2H.RoomH k (A.deeper (envOfC qual scope s.heap.objs.size f cdv)) → sp vs H Q E → ∃ t, PSs (L2H.cxH (L2.CX P w) P w K mg base N qual scope f cdv A up s H E z) body t ∧ t { nx := fun _ H' => Q .non H', rt := Q } (L2.start N vs) H) : FnP P w K mg base (k + 1) f fd ps sp := by
  obtain ⟨oc, od, dV, kV, doc, pm, an, cdv, ct, osl, rfl, lk, hcd, _, _⟩ := F.ex
  refine ⟨ln, fun A up s H ar us vs Q E z hr hz e0 hbi r hsp => ?_⟩
  have hl := ln _ _ _ _ hsp
  have KX : K.In s.heap := e0.mod.kin.keeps fun b o e => (e0.bs b o e).1
  have lim : s.heap.NoLimit := e0.mod.nolimit.keeps fun b o e => (e0.bs b o e).1
  have hkd : ∀ y ∈ ps.zip us, scope.names.lookup y.1 = some .local ∨ (scope.names.lookup y.1 = some .cell ∧ ((cellsFrom (s.heap.objs.size + 1) scope.names []).lookup y.1).isSome = true) := fun ⟨n, v⟩ hy => (S.par n (List.of_mem_zip hy).1).imp id fun q => ⟨q, PySem.W.cellsFrom_some _ _ _ (.inl q)⟩
  refine codeAny_call_function hr.depth (KX _ _ lk) rfl S.co S.gen rfl (PySem.W.codeRec_of KX hcd) (hbi _ _ _ _ (wpAny_newFunctionEnv_cells S.kind hkd fun env he s1 x => ?_))
  subst he
  refine ⟨lim.keeps x.toInCall.keep, codeAny_func ?_⟩
  obtain ⟨t, ht, hq⟩ := hb cdv A up s H vs Q E z (hr.deeper _) hsp
  refine wpAny_mono (ht.run [] s1 (L2.start N vs) H _ (L2H.inv_startH S hz e0 hl r x) hq) (fun fl s' hs => ?_) fun e s' hs => hs
  cases fl with
  | ret u =>
    obtain ⟨v, σ', H', J, rv, q⟩ := hs
    exact ⟨v, H', J.os, J.bare, J.base, J.hok, rv, q⟩
  | next =>
    obtain ⟨σ', H', J, q⟩ := hs
    exact ⟨.non, H', J.os, J.bare, J.base, J.hok, rfl, q⟩
  | brk => exact hs.elim fun _ h => h.elim fun _ h => h.2.elim
  | cont => exact hs.elim fun _ h => h.elim fun _ h => h.2.elim
section
variable {X : Cx} {k : Nat} {f : Addr} {fd : FuncData} {ps : List Str} {sp : Sp} {E : L2.St → XK} {x : Str} {q pos : Pos} {e : Expr} {es : List Expr} {t : TA}
theorem pe_callP (F : FnP X.prog X.w X.K X.mg X.base k f fd ps sp) (hr : L2H.RoomH k X.A) (hp : ∃ z, z ∈ X.pn) (hg : Gl X x) (hm : X.mg x = some (.ref f)) (hk : PySem.W.keepIn X.K (.ref f) = true) (hb : Binds X.K fd ps []) (hx : ∀ σ, PassesAt (L2.CX X.prog X.w) X σ (E σ)) (ha : PA X (e :: es) t) (hd : (x == ("__debug__" : Str)) = false)
    (he : starEach (e :: es) X.env = (false, eval e X.env) :: starEach es X.env) (hpl : (backTo pos (starEach es X.env)).any (·.1) = false) : PE X (.Call (.Name x q) (e :: es) [] pos) (tCallS sp E t) := by
  refine ⟨fun pins s σ H Q I h => wpAny_Call_Name_kw (ld_glob I hg hm ?_ hd)⟩
  refine PySem.W.callWith_K (h₀ := X.base) I.ok.mod.kin hk (thn (ha.run pos pins s σ H _ I h) fun us s1 ⟨vs, H1, I1, r, hq⟩ => ⟨I1.kIn, ?_⟩) he hpl
  obtain ⟨z, hz⟩ := hp
  have hl : us.length = ps.length := by rw [← r.length]; exact F.ln _ _ _ _ hq
  have b := hb s1 us I1.kIn (by rw [List.append_nil]; exact hl)
  rw [List.append_nil] at b
  have P1 := I1.pin z (List.mem_append_left _ hz)
  refine wpAny_call (codeAny_mono (F.go X.A X.stack s1 H1 ⟨us, []⟩ us vs Q (E σ) z hr ⟨P1.1, P1.2.1, fun hm => (List.mem_cons.mp (I1.stkSub z.1 hm)).elim P1.2.2.1 P1.2.2.2.1, P1.2.2.2.2⟩ I1.env0 b r hq) fun r s' hc => ?_)
  cases r with
  | error e => exact hx σ pins H1 s1 e s' I1 hc
  | ok fl => cases fl with
    | ret u => exact I1.after hc
    | _ => exact hc.elim
end
end PD
end

section
set_option Elab.async false
set_option linter.all false
set_option maxRecDepth 100000
set_option maxHeartbeats 2000000
/-! PD, part 2c: a chain of three comparisons; a try with two clauses, the first one with a name. -/
namespace PD
open PySem PySem.Spec PyProof.Rows L2
def tChain3 (r r' r2 : R2) (ta tb tc td : TE) : TE := fun σ H Q => ta σ H fun x H1 => tb σ H1 fun y H2 => r x y H2 fun z H3 => ∃ k, z = .bl k ∧ (if k = true then tc σ H3 fun w H4 => r' y w H4 fun z2 H5 => ∃ k2, z2 = .bl k2 ∧ (if k2 = true then td σ H5 fun u H6 => r2 w u H6 Q else Q (.bl false) H5) else Q (.bl false) H3)
theorem pe_chain3 {X : Cx} {o1 o2 o3 : CmpOp} {r r' r2 : R2} {a b c d : Expr} {ta tb tc td : TE} {pos : Pos} (h1 : OpR X (compareOp o1) r) (h2 : OpR X (compareOp o2) r') (h3 : OpR X (compareOp o3) r2) (ha : PE X a ta) (hb : PE X b tb) (hc : PE X c tc) (hd : PE X d td) (hm : lastMarks [o1, o2, o3] [b, c, d] = false) : PE X (.Compare a [o1, o2, o3] [b, c, d] pos) (tChain3 r r' r2 ta tb tc td) := by
  refine ⟨fun pins s σ H Q I h => Compare_chain (thn (ha.run pins s σ H _ I h) fun v s1 ⟨x, H1, I1, e1, q1⟩ => chain_link (thn (hb.run pins s1 σ H1 _ I1 q1) fun u s2 ⟨y, H2, I2, e2, q2⟩ => thn (h1 pins s2 σ H2 x y v u _ I2 e1 e2 q2) fun t s3 ⟨z, H3, I3, e3, k, ez, q3⟩ => ?_)) hm⟩
  subst ez
  cases e3
  refine wpAny_truthy_bool ?_
  cases k with
  | false => exact ite_ff ⟨.bl false, H3, I3, rfl, q3⟩
  | true =>
    refine ite_tt (chain_link (thn (hc.run pins s3 σ H3 _ I3 q3) fun u2 s4 ⟨y2, H4, I4, e4, q4⟩ => thn (h2 pins s4 σ H4 y y2 u u2 _ I4 e2 e4 q4) fun t2 s5 ⟨z2, H5, I5, e5, k2, ez2, q5⟩ => ?_))
    subst ez2
    cases e5
    refine wpAny_truthy_bool ?_
    cases k2 with
    | false => exact ite_ff ⟨.bl false, H5, I5, rfl, q5⟩
    | true => exact ite_tt (chain_last (thn (hd.run pins s5 σ H5 _ I5 q5) fun u3 s6 ⟨y3, H6, I6, e6, q6⟩ => h3 pins s6 σ H6 y2 y3 u2 u3 Q I6 e4 e6 q6))
theorem pt_chain3 {X : Cx} {o1 o2 o3 : CmpOp} {r r' r2 : R2} {a b c d : Expr} {ta tb tc td : TE} {pos : Pos} (h1 : OpR X (compareOp o1) r) (h2 : OpR X (compareOp o2) r') (h3 : OpR X (compareOp o3) r2) (ha : PE X a ta) (hb : PE X b tb) (hc : PE X c tc) (hd : PE X d td) (hm : lastMarks [o1, o2, o3] [b, c, d] = false) : PT X (.Compare a [o1, o2, o3] [b, c, d] pos) (tTest (tChain3 r r' r2 ta tb tc td)) := by
  refine ⟨fun pins s σ H Q I h => isTrue_chain (thn (ha.run pins s σ H _ I h) fun v s1 ⟨x, H1, I1, e1, q1⟩ => test_link (thn (hb.run pins s1 σ H1 _ I1 q1) fun u s2 ⟨y, H2, I2, e2, q2⟩ => thn (h1 pins s2 σ H2 x y v u _ I2 e1 e2 q2) fun t s3 ⟨z, H3, I3, e3, k, ez, q3⟩ => ?_)) hm⟩
  subst ez
  cases e3
  refine wpAny_truthy_bool ?_
  cases k with
  | false =>
    obtain ⟨k', e', q'⟩ := q3
    cases e'
    exact ite_ff ⟨H3, I3, q'⟩
  | true =>
    refine ite_tt (test_link (thn (hc.run pins s3 σ H3 _ I3 q3) fun u2 s4 ⟨y2, H4, I4, e4, q4⟩ => thn (h2 pins s4 σ H4 y y2 u u2 _ I4 e2 e4 q4) fun t2 s5 ⟨z2, H5, I5, e5, k2, ez2, q5⟩ => ?_))
    subst ez2
    cases e5
    refine wpAny_truthy_bool ?_
    cases k2 with
    | false =>
      obtain ⟨k', e', q'⟩ := q5
      cases e'
      exact ite_ff ⟨H5, I5, q'⟩
    | true =>
      refine ite_tt (test_last (thn (hd.run pins s5 σ H5 _ I5 q5) fun u3 s6 ⟨y3, H6, I6, e6, q6⟩ => thn (h3 pins s6 σ H6 y2 y3 u2 u3 _ I6 e4 e6 q6) fun d' s7 ⟨z3, H7, I7, e7, k3, ez3, q7⟩ => ?_))
      subst ez3
      cases e7
      exact wpAny_truthy_bool ⟨H7, I7, q7⟩
/-- except x as n: .., except y: .. -/
def wTwo (K : PySem.W.Frag) (c c2 : Value) (i : Nat) (ts ts2 : Addr → Value → Option Addr → TS) (Wo : WX) (D : Ends) : WX := wAs K c i ts (wOnly K c2 ts2 Wo D) D
section
variable {X : Cx} {x y n : Str} {c c2 : Value} {i : Nat} {body su su2 : List Stmt} {b1 b2 : Stmt} {np yp pos p1 p2 : Pos} {tb : WX → TS} {ts ts2 : Addr → Value → Option Addr → TS} {Wo : WX}
theorem ps_try_two (hs : X.stack = X.env :: X.outer) (hf : X.env.frame = some X.env.locals) (hN : X.N.Nodup) (hi : X.N[i]? = some n) (hln : X.env.kindOf n = some .local) (hc : Names X x c) (hc2 : Names X y c2) (tk : Takes X Wo)
    (hb : ∀ (W : WX) (qs : List (Addr × Obj)) (ze : Value → Shared → Prop), Takes (X.tr qs ze) W → PassesOwn (model X.prog X.w) X.A X.env ze → PSs (X.tr qs ze) body (tb W)) (h1 : ∀ (a : Addr) (o : Obj) (cl : Value) (d : Option Addr) (qs : List (Addr × Obj)), Zc cl d o → (∃ vs, o.data = .fields vs) → PSs (X.suite a ((a, o) :: qs)) (b1 :: su) (ts a cl d)) (h2 : ∀ (a : Addr) (o : Obj) (cl : Value) (d : Option Addr) (qs : List (Addr × Obj)), Zc cl d o → (∃ vs, o.data = .fields vs) → PSs (X.suite a ((a, o) :: qs)) (b2 :: su2) (ts2 a cl d)) :
    PS X (.Try body [.ExceptHandler (some (.Name x np)) (some n) (b1 :: su) p1, .ExceptHandler (some (.Name y yp)) none (b2 :: su2) p2] [] [] pos) (fun D σ H => tb (wTwo X.K c c2 i ts ts2 Wo D) D σ H) := by
  refine ⟨fun pins s σ H D I h => wpAny_Try_except ?_⟩
  have kk := I.ok
  have hfr : X.A.frames = some (X.env :: X.outer) := kk.frames.trans (by rw [hs])
  refine wpAny_mono ((hb (wTwo X.K c c2 i ts ts2 Wo D) (X.pn ++ pins) (fun e t1 => wpAny (model X.prog X.w) X.A (noteFrame e X.env) (fun _ t2 => wpAny (model X.prog X.w) X.A (setFlight e none) (fun _ t3 => wpAny (model X.prog X.w) X.A (handleBy e X.env [.ExceptHandler (some (.Name x np)) (some n) (b1 :: su) p1, .ExceptHandler (some (.Name y yp)) none (b2 :: su2) p2]) (SP X pins D) X.xe t3) X.xe t2) X.xe t1) (fun u s' xx => ?_) PassesOwn.looking).run [] s σ H D (I.toTry _) h) (fun f s1 hsp => ?_) (fun e s1 he => he)
  · obtain ⟨a, Bh, sI, ps', σ', H', cl, d, rfl, J', nb, up, sky, na, os, ag, b, eb, yes, no⟩ := xx
    have J : Inv X pins σ' H' sI := J'.ofTry kk
    have sky2 : Sky Bh (X.env :: X.outer) a (Zc cl d) X.env.locals s'.heap := by rw [← hs]; exact sky
    show wpAny (model X.prog X.w) X.A (noteFrame (.ref a) X.env) _ _ _
    refine Sky.land Zc.steady hfr hf sky2 fun g3 w3 u3 => ?_
    have J3 : Inv X pins σ' H' { s' with heap := g3 } := J.landed nb w3.1 (up.trans u3) os ag
    obtain ⟨o3, vs3, eo, zo, do3⟩ := w3.there
    have nfr : a ∉ L2.frs (X.env :: X.outer) := fun hm => by
      obtain ⟨_, o', e', hnf⟩ := w3.2.2.1.mem hm
      rw [eo] at e'
      cases e'
      exact hnf _ do3
    have nL : a ≠ X.env.locals := fun z => nfr (List.mem_filterMap.mpr ⟨X.env, List.mem_cons_self, by rw [hf, z]⟩)
    have nF : a ∉ X.fs := fun hm => (List.mem_filterMap.mp hm).elim fun e ⟨he, q⟩ => nfr (List.mem_filterMap.mpr ⟨e, List.mem_cons_of_mem _ he, q⟩)
    have S3 := J3.suite eo do3 na nL nF
    have LT : PySem.W.Looks (model X.prog X.w) g3 (typeOf (.ref a)) cl := fun A Q E s k q => wpAny_typeOf_ref (k _ _ eo) (by rw [zo.1]; exact q)
    have test : ∀ {x : Str} {np : Pos} {c : Value}, Names X x c → ∀ {Q : Value → Shared → Prop} {E : Value → Shared → Prop}, Q c { s' with heap := g3 } → wpAny (model X.prog X.w) (X.A.mark (some (.ref a))) (eval (.Name x np) X.env) Q E { s' with heap := g3 } := fun {x np c} hn {Q E} q => match hn with
      | ⟨hg, hd, .inl hm⟩ => ld_glob (X := X.suite a ((a, o3) :: (X.pn ++ pins))) S3 hg hm q hd
      | ⟨hg, hd, .inr ⟨hm, hv, hz⟩⟩ => ld_blt (X := X.suite a ((a, o3) :: (X.pn ++ pins))) S3 hg hm hv q hz hd
    refine wpAny_handleBy_cons (codeAny_handlers_test (test hc ((PySem.W.exm_one (M := model X.prog X.w) J3.kIn LT eb).here ?_))) (by intro q; cases q)
    cases b with
    | true =>
      refine codeAny_handlers_suite_as (HandSPX.lands_againZ w3 fun g4 w4 u4 => ?_)
      have J4 : Inv X pins σ' H' { s' with heap := g4 } := J.landed nb w4.1 ((up.trans u3).trans u4) os ag
      obtain ⟨o4, vs4, eo4, zo4, do4⟩ := w4.there
      refine store_ok (X := X.suite a ((a, o4) :: (X.pn ++ pins))) (v := .ref a) (J4.suite eo4 do4 na nL nF) hN hi (.inl hln) rfl (fun s5 S5 => ?_) (.inr hln)
      refine wpAny_mono ((h1 a o4 cl d (X.pn ++ pins) zo4 ⟨_, do4⟩).run [] s5 _ H' _ S5 (yes rfl a na)) (fun f s6 hsp => ?_) (fun _ _ z => False.elim z)
      have fin : ∀ {σ6 : L2.St} {H6 : Hp} {Q : Shared → Prop}, Inv (X.suite a ((a, o4) :: (X.pn ++ pins))) [] σ6 H6 s6 → (∀ s7, Inv X pins (σ6.set i none) H6 s7 → Q s7) → wpAny (model X.prog X.w) X.A (do bindName X.env n .none; unbindBehindTheSuite X.env n p1) (fun _ s7 => Q s7) X.xe s6 := fun S6 hq => gone_ok (S6.unsuite kk) hN hi hln hq
      cases f with
      | ret u => obtain ⟨v6, σ6, H6, S6, r6, q6⟩ := hsp; exact fin S6 fun s7 J7 => ⟨_, _, _, J7, r6, q6⟩
      | next => obtain ⟨σ6, H6, S6, q6⟩ := hsp; exact fin S6 fun s7 J7 => ⟨_, _, J7, q6⟩
      | brk => obtain ⟨σ6, H6, S6, q6⟩ := hsp; exact fin S6 fun s7 J7 => ⟨_, _, J7, q6⟩
      | cont => obtain ⟨σ6, H6, S6, q6⟩ := hsp; exact fin S6 fun s7 J7 => ⟨_, _, J7, q6⟩
    | false =>
      obtain ⟨k, ek, yes2, no2⟩ := no rfl
      show wpAny _ X.A (handleBy (.ref a) X.env [.ExceptHandler (some (.Name y yp)) none (b2 :: su2) p2]) _ _ _
      refine wpAny_handleBy_cons (codeAny_handlers_test (test hc2 ((PySem.W.exm_one (M := model X.prog X.w) J3.kIn LT ek).here ?_))) (by intro q; cases q)
      cases k with
      | true =>
        refine codeAny_handlers_suite (HandSPX.lands_againZ w3 fun g4 w4 u4 => ?_)
        have J4 : Inv X pins σ' H' { s' with heap := g4 } := J.landed nb w4.1 ((up.trans u3).trans u4) os ag
        obtain ⟨o4, vs4, eo4, zo4, do4⟩ := w4.there
        refine wpAny_mono ((h2 a o4 cl d (X.pn ++ pins) zo4 ⟨_, do4⟩).run [] _ _ H' _ (J4.suite eo4 do4 na nL nF) (yes2 rfl a na)) (fun f s6 hsp => ?_) (fun _ _ z => False.elim z)
        cases f with
        | ret u => obtain ⟨v6, σ6, H6, S6, r6, q6⟩ := hsp; exact ⟨_, _, _, S6.unsuite kk, r6, q6⟩
        | next => obtain ⟨σ6, H6, S6, q6⟩ := hsp; exact ⟨_, _, S6.unsuite kk, q6⟩
        | brk => obtain ⟨σ6, H6, S6, q6⟩ := hsp; exact ⟨_, _, S6.unsuite kk, q6⟩
        | cont => obtain ⟨σ6, H6, S6, q6⟩ := hsp; exact ⟨_, _, S6.unsuite kk, q6⟩
      | false =>
        show wpAny _ X.A (handleBy (.ref a) X.env []) _ _ _
        refine wpAny_handleBy_nil ?_
        obtain ⟨_, _, _, oe, vs, T, oT, ts', he, hz, hd, ht, hr⟩ := id w3
        unfold PySem.passOn
        refine wpAny_bind (wpAny_field he hd ht ?_)
        rw [if_neg (show ¬ ((Value.ref T == Value.none) = true) from by simp)]
        have fin : wpAny (model X.prog X.w) X.A (setFlight (.ref a) X.env.frame) (fun _ s4 => wpAny (model X.prog X.w) X.A (throw (.ref a) : Sem Flow) (SP X pins D) X.xe s4) X.xe { s' with heap := g3 } := by
          rw [hf]
          exact HandSPX.setFlight_upZ w3 fun g4 hh4 u4 => wpAny_throw (tk _ _ ⟨a, Bh, sI, pins, σ', H', cl, d, rfl, J, nb, (up.trans u3).trans u4, .inr (.inr (by rw [hs]; exact hh4)), na, os, ag, no2 rfl⟩)
        first
          | exact wpAny_bind (wpAny_pure (wpAny_bind fin))
          | exact wpAny_bind fin
  · cases f with
    | next => obtain ⟨σ', H', J', q⟩ := hsp; exact wpAny_execs_nil ⟨σ', H', J'.ofTry kk, q⟩
    | brk => obtain ⟨σ', H', J', q⟩ := hsp; exact ⟨σ', H', J'.ofTry kk, q⟩
    | cont => obtain ⟨σ', H', J', q⟩ := hsp; exact ⟨σ', H', J'.ofTry kk, q⟩
    | ret u => obtain ⟨v, σ', H', J', r, q⟩ := hsp; exact ⟨v, σ', H', J'.ofTry kk, r, q⟩
end
end PD
end

section
set_option Elab.async false
set_option linter.all false
set_option maxRecDepth 100000
set_option maxHeartbeats 400000
/-! PD, part 2b: an instance with a field that is filled later (an object of which the heap tells no more than that). -/
namespace PD
open PySem PySem.Spec PyProof.Rows L2
section
variable {X : Cx} {pins : List (Addr × Obj)} {σ : L2.St} {H H' : Hp} {s : Shared} {a C dx : Addr} {fs : List (Str × V)} {f : Str} {v : V} {β : Bool}
/-- two objects are told otherwise -/
theorem inv_swap {oa od : HO} (I : L2.Inv X pins σ H s) (ha : H a = some oa) (hd : H dx = some od) (ne : dx ≠ a) (ta : (∀ xs, oa ≠ .tup xs) ∧ (∀ o u, oa ≠ .frz o u) ∧ (∀ ps, oa ≠ .tbl ps) ∧ ∀ x, oa ≠ .own x) (td : (∀ xs, od ≠ .tup xs) ∧ (∀ o u, od ≠ .frz o u) ∧ (∀ ps, od ≠ .tbl ps) ∧ ∀ x, od = .own x → x = a)
    (hs : ∀ b, b ≠ a → b ≠ dx → H' b = H b) (na : ∀ o, H' a = some o → ObjOk X.prog X.w H' s.heap a o) (nd : ∀ o, H' dx = some o → ObjOk X.prog X.w H' s.heap dx o) : L2.Inv X pins σ H' s := by
  have key : ∀ b o, H b = some o → (b = a → o = oa) ∧ (b = dx → o = od) := fun b o e => ⟨fun z => by subst z; exact Option.some.inj (e.symm.trans ha), fun z => by subst z; exact Option.some.inj (e.symm.trans hd)⟩
  have tup : ∀ b xs, H b = some (.tup xs) → H' b = some (.tup xs) := fun b xs e => by
    rw [hs b (fun z => ta.1 _ ((key b _ e).1 z).symm) fun z => td.1 _ ((key b _ e).2 z).symm]; exact e
  have hok : HOk X.prog X.w H' s.heap := fun b o e => by
    by_cases b1 : b = a
    · subst b1; exact na o e
    by_cases b2 : b = dx
    · subst b2; exact nd o e
    rw [hs b b1 b2] at e
    refine (I.hok b o e).stay (fun _ _ _ q => q) (fun c q => ?_) tup
    rw [hs c (fun z => ta.2.2.2 _ ((key c _ q).1 z).symm) fun z => b1 (td.2.2.2 _ ((key c _ q).2 z).symm)]
    exact q
  have u : Un X.fs [] H H' s.heap s.heap := ⟨fun b o e _ _ _ => e, fun b o e _ _ _ => ⟨o.slots, e⟩, fun b o _ e _ => by
    rw [hs b (fun z => by subst z; rw [ha] at e; cases e) fun z => by subst z; rw [hd] at e; cases e]; exact e, fun b o e _ => ⟨o, e⟩, tup, fun b o u e => by
    rw [hs b (fun z => ta.2.1 _ _ ((key b _ e).1 z).symm) fun z => td.2.1 _ _ ((key b _ e).2 z).symm]; exact e, fun b ps e => ⟨#[], by
    rw [Array.append_empty, hs b (fun z => ta.2.2.1 _ ((key b _ e).1 z).symm) fun z => td.2.2.1 _ ((key b _ e).2 z).symm]; exact e⟩⟩
  exact I.un (t' := s.toks) u hok
theorem ext_no {φ : Heap → Prop} : (∀ xs, HO.ext φ ≠ .tup xs) ∧ (∀ o u, HO.ext φ ≠ .frz o u) ∧ (∀ ps, HO.ext φ ≠ .tbl ps) ∧ ∀ x, HO.ext φ ≠ .own x := ⟨(fun _ z => nomatch z), (fun _ _ z => nomatch z), (fun _ z => nomatch z), (fun _ z => nomatch z)⟩
theorem ext_no' {φ : Heap → Prop} : (∀ xs, HO.ext φ ≠ .tup xs) ∧ (∀ o u, HO.ext φ ≠ .frz o u) ∧ (∀ ps, HO.ext φ ≠ .tbl ps) ∧ ∀ x, HO.ext φ = .own x → x = a := ⟨(fun _ z => nomatch z), (fun _ _ z => nomatch z), (fun _ z => nomatch z), (fun _ z => nomatch z)⟩
theorem ins_no {C dx : Addr} {fs : List (Str × V)} : (∀ xs, HO.ins C dx fs ≠ .tup xs) ∧ (∀ o u, HO.ins C dx fs ≠ .frz o u) ∧ (∀ ps, HO.ins C dx fs ≠ .tbl ps) ∧ ∀ x, HO.ins C dx fs ≠ .own x := ⟨(fun _ z => nomatch z), (fun _ _ z => nomatch z), (fun _ z => nomatch z), (fun _ z => nomatch z)⟩
theorem own_no : (∀ xs, HO.own a ≠ .tup xs) ∧ (∀ o u, HO.own a ≠ .frz o u) ∧ (∀ ps, HO.own a ≠ .tbl ps) ∧ ∀ x, HO.own a = .own x → x = a := ⟨(fun _ z => nomatch z), (fun _ _ z => nomatch z), (fun _ z => nomatch z), fun _ z => (HO.own.inj z).symm⟩
theorem bkA_ok {P : Program} {w : World} {h : Heap} (e : h.get? a = some (PySem.W.instObj C dx)) : ObjOk P w H h a (bkA a C dx) := ⟨e, ⟨_, e⟩, fun h1 h2 e1 k => k _ e1⟩
theorem bkD_ok {P : Program} {w : World} {h : Heap} {mA : Str → Option Value} {b : V} (n : h.Ns1 dx mA) (hb : b = .non ∨ b = .bl β) (r : ∀ f, RelO ((fs ++ [(memoF, b)]).lookup f) (mA f)) (wi : PySem.Within mA ((fs ++ [(memoF, b)]).map (·.1))) : ObjOk P w H h dx (bkD dx fs β) :=
  ⟨⟨mA, b, n, hb, r, wi⟩, let ⟨o, _, _, e, _⟩ := n; ⟨o, e⟩, fun h1 h2 ⟨mA, b, n, hb, r, wi⟩ k => ⟨mA, b, n.at k, hb, r, wi⟩⟩
theorem bk_get {P : Program} {w : World} {h : Heap} (hok : HOk P w H h) (e : H a = some (bkA a C dx)) (e2 : H dx = some (bkD dx fs β)) (ne : dx ≠ a) :
    ∃ mA b, ObjM h a dx C mA ∧ (b = .non ∨ b = .bl β) ∧ (∀ f, RelO ((fs ++ [(memoF, b)]).lookup f) (mA f)) ∧ PySem.Within mA ((fs ++ [(memoF, b)]).map (·.1)) := by
  have h1 : ObjOk P w H h a (bkA a C dx) := hok a _ e
  have h2 : ObjOk P w H h dx (bkD dx fs β) := hok dx _ e2
  obtain ⟨ob, _⟩ := h1
  obtain ⟨⟨mA, b, n, hb, r, wi⟩, _⟩ := h2
  exact ⟨mA, b, ⟨ob, n, ne⟩, hb, r, wi⟩
theorem look_old {b : V} (nf : f ≠ memoF) : ∀ {fs : List (Str × V)}, (fs ++ [(memoF, b)]).lookup f = fs.lookup f
  | [] => by
    show List.lookup f [(memoF, b)] = none
    rw [List.lookup_cons, show (f == memoF) = false from beq_eq_false_iff_ne.mpr nf]
    rfl
  | (g, x) :: r => by
    rw [List.cons_append, List.lookup_cons, List.lookup_cons, look_old nf]
theorem look_new {b : V} : ∀ {fs : List (Str × V)}, memoF ∉ fs.map Prod.fst → (fs ++ [(memoF, b)]).lookup memoF = some b
  | [], _ => by
    show List.lookup memoF [(memoF, b)] = some b
    simp [List.lookup]
  | (g, x) :: r, h => by
    rw [List.map_cons, List.mem_cons, not_or] at h
    rw [List.cons_append, List.lookup_cons, show (memoF == g) = false from beq_eq_false_iff_ne.mpr h.1]
    exact look_new h.2
/-- it is filled -/
def bkK (dx : Addr) (fs : List (Str × V)) (β : Bool) : HO := .ext fun h => ∃ (mA : Str → Option Value), h.Ns1 dx mA ∧ (∀ f, RelO ((fs ++ [(memoF, V.bl β)]).lookup f) (mA f)) ∧ PySem.Within mA ((fs ++ [(memoF, V.bl β)]).map (·.1))
theorem bkK_ok {P : Program} {w : World} {h : Heap} {mA : Str → Option Value} (n : h.Ns1 dx mA) (r : ∀ f, RelO ((fs ++ [(memoF, V.bl β)]).lookup f) (mA f)) (wi : PySem.Within mA ((fs ++ [(memoF, V.bl β)]).map (·.1))) : ObjOk P w H h dx (bkK dx fs β) :=
  ⟨⟨mA, n, r, wi⟩, let ⟨o, _, _, e, _⟩ := n; ⟨o, e⟩, fun h1 h2 ⟨mA, n, r, wi⟩ k => ⟨mA, n.at k, r, wi⟩⟩
/-- a field that stays -/
theorem getattr_bk {A : Around} {E : Value → Shared → Prop} {ex : Bool} {Q : Value → Shared → Prop} (I : L2.Inv X pins σ H s) (e : H a = some (bkA a C dx)) (e2 : H dx = some (bkD dx fs β)) (ne : dx ≠ a) (c : Cls X.K C) (n : NoAttr X.K C f) (nf : f ≠ memoF) (l : fs.lookup f = some v)
    (h : ∀ u s', L2.Inv X pins σ H s' → RelV v u → Q u s') : wpAny (model X.prog X.w) A (getAttr (.ref a) f ex) Q E s := by
  obtain ⟨mA, b, O, _, r, _⟩ := bk_get I.hok e e2 ne
  obtain ⟨u, hu, ru⟩ := RelO.some_of (v := v) (o := mA f) (by rw [← l, ← look_old (b := b) nf]; exact r f)
  exact get_map I.kIn O (c.get f) c.hd n hu (handed_of ru) (h u _ (I.tok _) ru)
/-- the field that is filled later -/
theorem getattr_memo {A : Around} {E : Value → Shared → Prop} {ex : Bool} {Q : Value → Shared → Prop} (I : L2.Inv X pins σ H s) (e : H a = some (bkA a C dx)) (e2 : H dx = some (bkD dx fs β)) (ne : dx ≠ a) (c : Cls X.K C) (n : NoAttr X.K C memoF) (nm : memoF ∉ fs.map Prod.fst)
    (h1 : ∀ u s', L2.Inv X pins σ H s' → RelV .non u → Q u s') (h2 : ∀ u s', L2.Inv X pins σ (upd H dx (bkK dx fs β)) s' → RelV (.bl β) u → Q u s') : wpAny (model X.prog X.w) A (getAttr (.ref a) memoF ex) Q E s := by
  obtain ⟨mA, b, O, hb, r, wi⟩ := bk_get I.hok e e2 ne
  obtain ⟨u, hu, ru⟩ := RelO.some_of (v := b) (o := mA memoF) (by rw [← look_new (b := b) nm]; exact r memoF)
  refine get_map I.kIn O (c.get memoF) c.hd n hu (handed_of ru) ?_
  rcases hb with rfl | rfl
  · exact h1 u _ (I.tok _) ru
  · refine h2 u _ (inv_swap (I.tok _) e e2 ne ext_no ext_no' (fun b h1 h2 => upd_ne h2) (fun o z => ?_) fun o z => ?_) ru
    · rw [upd_ne ne.symm, e] at z
      cases z
      exact bkA_ok O.obj
    · rw [upd_same] at z
      cases z
      exact bkK_ok O.ns r wi
theorem getattr_known {A : Around} {E : Value → Shared → Prop} {ex : Bool} {Q : Value → Shared → Prop} (I : L2.Inv X pins σ H s) (e : H a = some (bkA a C dx)) (e2 : H dx = some (bkK dx fs β)) (ne : dx ≠ a) (c : Cls X.K C) (n : NoAttr X.K C memoF) (nm : memoF ∉ fs.map Prod.fst)
    (h : ∀ u s', L2.Inv X pins σ H s' → RelV (.bl β) u → Q u s') : wpAny (model X.prog X.w) A (getAttr (.ref a) memoF ex) Q E s := by
  have h1 : ObjOk X.prog X.w H s.heap a (bkA a C dx) := I.hok a _ e
  have h2 : ObjOk X.prog X.w H s.heap dx (bkK dx fs β) := I.hok dx _ e2
  obtain ⟨ob, _⟩ := h1
  obtain ⟨⟨mA, nn, r, wi⟩, _⟩ := h2
  obtain ⟨u, hu, ru⟩ := RelO.some_of (v := V.bl β) (o := mA memoF) (by rw [← look_new (b := V.bl β) nm]; exact r memoF)
  exact get_map I.kIn ⟨ob, nn, ne⟩ (c.get memoF) c.hd n hu (handed_of ru) (h u _ (I.tok _) ru)
theorem forget {s : Shared} (I : L2.Inv X pins σ H s) (e : H a = some (bkA a C dx)) (e2 : H dx = some (bkK dx fs β)) (ne : dx ≠ a) : L2.Inv X pins σ (upd H dx (bkD dx fs β)) s := by
  have h1 : ObjOk X.prog X.w H s.heap a (bkA a C dx) := I.hok a _ e
  have h2 : ObjOk X.prog X.w H s.heap dx (bkK dx fs β) := I.hok dx _ e2
  obtain ⟨ob, _⟩ := h1
  obtain ⟨⟨mA, nn, r, wi⟩, _⟩ := h2
  refine inv_swap I e e2 ne ext_no ext_no' (fun b h1 h2 => upd_ne h2) (fun o z => ?_) fun o z => ?_
  · rw [upd_ne ne.symm, e] at z
    cases z
    exact bkA_ok ob
  · rw [upd_same] at z
    cases z
    exact bkD_ok nn (.inr rfl) r wi
theorem setattr_memo {A : Around} {E : Value → Shared → Prop} {Q : Unit → Shared → Prop} (I : L2.Inv X pins σ H s) (e : H a = some (bkA a C dx)) (e2 : H dx = some (bkD dx fs β)) (ne : dx ≠ a) (c : Cls X.K C) (n : NoAttr X.K C memoF) (nm : memoF ∉ fs.map Prod.fst) (hl : fs.length < 900)
    {u : Value} (ru : RelV (.bl β) u) (h : ∀ s', L2.Inv X pins σ (upd H dx (bkK dx fs β)) s' → Q () s') : wpAny (model X.prog X.w) A (setAttr (.ref a) memoF u) Q E s := by
  obtain ⟨mA, b, O, hb, r, wi⟩ := bk_get I.hok e e2 ne
  have hz : ((fs ++ [(memoF, b)]).map (·.1)).length ≤ sizeLine := by
    simp only [List.length_map, List.length_append, List.length_cons, List.length_nil, sizeLine_eq]
    omega
  -- told as an instance
  have I1 : L2.Inv X pins σ (upd (upd H dx (.own a)) a (.ins C dx (fs ++ [(memoF, b)]))) s := by
    refine inv_swap I e e2 ne ext_no ext_no' (fun b h1 h2 => by rw [upd_ne h1, upd_ne h2]) (fun o z => ?_) fun o z => ?_
    · rw [upd_same] at z
      cases z
      exact ⟨by rw [upd_ne ne, upd_same], by simp only [List.length_append, List.length_cons, List.length_nil]; omega, ne, O.obj, mA, O.ns, r, wi⟩
    · rw [upd_ne ne, upd_same] at z
      cases z
      obtain ⟨o, _, _, e', _⟩ := O.ns
      exact ⟨o, e'⟩
  refine setattr_ok (y := .bl β) I1 upd_same c n (by simp only [List.length_append, List.length_cons, List.length_nil]; omega) ru fun s' I2 => h s' ?_
  obtain ⟨mA2, O2, r2, w2, _, _⟩ := ins_get I2.hok upd_same
  have pf : putF memoF (.bl β) (fs ++ [(memoF, b)]) = fs ++ [(memoF, .bl β)] := by
    have : ∀ {fs : List (Str × V)}, memoF ∉ fs.map Prod.fst → putF memoF (.bl β) (fs ++ [(memoF, b)]) = fs ++ [(memoF, .bl β)] := by
      intro fs
      induction fs with
      | nil => intro _; show putF memoF (.bl β) [(memoF, b)] = [(memoF, .bl β)]; rw [putF, if_pos rfl]
      | cons p r ih =>
        obtain ⟨g, x⟩ := p
        intro h
        rw [List.map_cons, List.mem_cons, not_or] at h
        rw [List.cons_append, putF, if_neg (fun z => h.1 z.symm), ih h.2]
        rfl
    exact this nm
  rw [pf] at r2 w2
  refine inv_swap I2 upd_same (by rw [upd_ne ne, upd_ne ne, upd_same]) ne ins_no own_no (fun b h1 h2 => by rw [upd_ne h2, upd_ne h1, upd_ne h1, upd_ne h2]) (fun o z => ?_) fun o z => ?_
  · rw [upd_ne ne.symm, e] at z
    cases z
    exact bkA_ok O2.obj
  · rw [upd_same] at z
    cases z
    exact bkK_ok O2.ns r2 w2
/-! ### rules -/
/-- e.f of an instance, whichever it is -/
def tFldU (K : PySem.W.Frag) (ta : TE) (f : Str) : TE := fun σ H Q => ta σ H fun x H1 => ∃ a C dx fs v, x = .ref a ∧ (H1 a = some (.ins C dx fs) ∨ (∃ β, H1 a = some (bkA a C dx) ∧ H1 dx = some (bkD dx fs β)) ∧ dx ≠ a ∧ f ≠ memoF) ∧ Cls K C ∧ NoAttr K C f ∧ fs.lookup f = some v ∧ Q v H1
theorem pe_fldU {e : Expr} {pos : Pos} {ta : TE} (he : PE X e ta) (hb : attributeBase e f X.env (eval e X.env) = eval e X.env) : PE X (.Attribute e f pos) (tFldU X.K ta f) := by
  refine ⟨fun pins s σ H Q I h => ?_⟩
  refine attr_of hb (thn (he.run pins s σ H _ I h) fun u s1 ⟨x, H1, I1, rx, a, C, dx, fs, v, ex, ea, c, n, l, q⟩ => ?_)
  subst ex
  obtain rfl : u = Value.ref a := rx
  rcases ea with ea | ⟨⟨β, e1, e2⟩, ne, nf⟩
  · exact getattr_ok I1 ea c n l fun u' s2 I2 ru => ⟨v, H1, I2, ru, q⟩
  · exact getattr_bk I1 e1 e2 ne c n nf l fun u' s2 I2 ru => ⟨v, H1, I2, ru, q⟩
/-- e.known_knit: None, or β -/
def tMemo (K : PySem.W.Frag) (ta : TE) : TE := fun σ H Q => ta σ H fun x H1 => ∃ a C dx fs β, x = .ref a ∧ H1 a = some (bkA a C dx) ∧ H1 dx = some (bkD dx fs β) ∧ dx ≠ a ∧ memoF ∉ fs.map Prod.fst ∧ Cls K C ∧ NoAttr K C memoF ∧ Q .non H1 ∧ Q (.bl β) (upd H1 dx (bkK dx fs β))
theorem pe_memo {e : Expr} {pos : Pos} {ta : TE} (he : PE X e ta) (hb : attributeBase e memoF X.env (eval e X.env) = eval e X.env) : PE X (.Attribute e memoF pos) (tMemo X.K ta) := by
  refine ⟨fun pins s σ H Q I h => ?_⟩
  refine attr_of hb (thn (he.run pins s σ H _ I h) fun u s1 ⟨x, H1, I1, rx, a, C, dx, fs, β, ex, e1, e2, ne, nm, c, n, q1, q2⟩ => ?_)
  subst ex
  obtain rfl : u = Value.ref a := rx
  exact getattr_memo I1 e1 e2 ne c n nm (fun u' s2 I2 ru => ⟨_, H1, I2, ru, q1⟩) fun u' s2 I2 ru => ⟨_, _, I2, ru, q2⟩
/-- .. once filled -/
def tKnown (K : PySem.W.Frag) (ta : TE) : TE := fun σ H Q => ta σ H fun x H1 => ∃ a C dx fs β, x = .ref a ∧ H1 a = some (bkA a C dx) ∧ H1 dx = some (bkK dx fs β) ∧ dx ≠ a ∧ memoF ∉ fs.map Prod.fst ∧ Cls K C ∧ NoAttr K C memoF ∧ Q (.bl β) (upd H1 dx (bkD dx fs β))
theorem pe_known {e : Expr} {pos : Pos} {ta : TE} (he : PE X e ta) (hb : attributeBase e memoF X.env (eval e X.env) = eval e X.env) : PE X (.Attribute e memoF pos) (tKnown X.K ta) := by
  refine ⟨fun pins s σ H Q I h => ?_⟩
  refine attr_of hb (thn (he.run pins s σ H _ I h) fun u s1 ⟨x, H1, I1, rx, a, C, dx, fs, β, ex, e1, e2, ne, nm, c, n, q⟩ => ?_)
  subst ex
  obtain rfl : u = Value.ref a := rx
  exact getattr_known I1 e1 e2 ne c n nm fun u' s2 I2 ru => ⟨_, _, forget I2 e1 e2 ne, ru, q⟩
/-- e.known_knit = value -/
def sMemo (K : PySem.W.Frag) (ta tv : TE) : TS := fun D σ H => tv σ H fun y H1 => ta σ H1 fun x H2 => ∃ a C dx fs β, x = .ref a ∧ y = .bl β ∧ H2 a = some (bkA a C dx) ∧ H2 dx = some (bkD dx fs β) ∧ dx ≠ a ∧ memoF ∉ fs.map Prod.fst ∧ fs.length < 900 ∧ Cls K C ∧ NoAttr K C memoF ∧ D.nx σ (upd H2 dx (bkK dx fs β))
theorem ps_memo {o value : Expr} {pos pos' : Pos} {ta tv : TE} (ha : PE X o ta) (hv : PE X value tv) (hs : swapsWith value (some (.Attribute o memoF pos')) pos.line X.env = pure false) : PS X (.Assign [.Attribute o memoF pos'] value pos) (sMemo X.K ta tv) := by
  refine ⟨fun pins s σ H D I h => ?_⟩
  refine plainObj_wpAny_Assign_Attribute (thn (hv.run pins s σ H _ I h) fun u s1 ⟨y, H1, I1, ry, q⟩ => thn (ha.run pins s1 σ H1 _ I1 q) fun ov s2 ⟨x, H2, I2, rx, a, C, dx, fs, β, ex, ey, e1, e2, ne, nm, hl, c, n, q2⟩ => ?_) hs
  subst ex ey
  obtain rfl : ov = Value.ref a := rx
  exact setattr_memo I2 e1 e2 ne c n nm hl ry fun s3 I3 => ⟨σ, _, I3, q2⟩
end
end PD
end

section
set_option Elab.async false
set_option linter.all false
set_option maxRecDepth 100000
set_option maxHeartbeats 4000000
/-! PD, part 3: each operation on data is what the machine does. -/
namespace PD
open PySem PySem.Spec PyProof.Rows L2

theorem guardR_ok {α : Type} {c : Bool} {r : R α} {a : α} (h : guardR c r = .ok a) : c = true ∧ r = .ok a := by
  cases c with
  | true => exact ⟨rfl, h⟩
  | false => cases h
theorem bind_ok {α β : Type} {r : R α} {f : α → R β} {b : β} (h : r.bind f = .ok b) : ∃ a, r = .ok a ∧ f a = .ok b := by
  cases r with
  | ok a => exact ⟨a, rfl, h⟩
  | exc x => cases h
  | stk => cases h
theorem bind_exc {α β : Type} {r : R α} {f : α → R β} {x : Xc} (h : r.bind f = .exc x) : r = .exc x ∨ ∃ a, r = .ok a ∧ f a = .exc x := by
  cases r with
  | ok a => exact .inr ⟨a, rfl, h⟩
  | exc y =>
    cases h
    exact .inl rfl
  | stk => cases h
theorem ofO_ok {α : Type} {o : Option α} {a : α} (h : R.ofO o = .ok a) : o = some a := by
  cases o with
  | some b => cases h; rfl
  | none => cases h
theorem ofO_exc {α : Type} {o : Option α} {x : Xc} (h : R.ofO o = .exc x) : False := by
  cases o <;> cases h
theorem guardR_exc {α : Type} {c : Bool} {r : R α} {x : Xc} (h : guardR c r = .exc x) : c = true ∧ r = .exc x := by
  cases c with
  | true => exact ⟨rfl, h⟩
  | false => cases h
theorem ok_inj {α : Type} {a b : α} (h : R.ok a = R.ok b) : a = b := by
  cases h
  rfl
theorem bb {a b : Bool} (h : (a && b) = true) : a = true ∧ b = true := Bool.and_eq_true_iff.mp h
theorem line_eq : line = sizeLine := by rw [sizeLine_eq]; rfl

/-- allowed, or new -/
def fr (A : Addr → Prop) (H : Hp) : Addr → Prop := fun q => A q ∨ H q = none
/-- a new list, a new empty dict, that nothing else stands on -/
def Own1 (G : Sg) (A : Addr → Prop) (H H' : Hp) (v : V) : D → Prop
  | .lst ds => ∃ p xs, v = .ref p ∧ H p = none ∧ H' p = some (.lst xs) ∧ HasL G (fun q => fr A H q ∧ q ≠ p) H' xs ds
  | .dct t kvs => ∃ p, v = .ref p ∧ H p = none ∧ (match t with
    | false => ∃ kv : List (Key × V), H' p = some (.dK kv) ∧ kvs.map Prod.fst = kv.map (fun p => keyD p.1) ∧ HasL G (fun _ => False) H' (kv.map Prod.snd) (kvs.map Prod.snd)
    | true => ∃ kv : List (List Key × V), H' p = some (.dT kv) ∧ kvs.map Prod.fst = kv.map (fun p => .tup (p.1.map keyD)) ∧ HasL G (fun _ => False) H' (kv.map Prod.snd) (kvs.map Prod.snd))
  | _ => True
/-- what comes: data d; f: a list, a dict is new -/
def Res (G : Sg) (A : Addr → Prop) (f : Bool) (H : Hp) (d : D) (Q : VK) : Prop := ∀ v H', Same H H' → Has G (fr A H) H' v d → (f = true → Own1 G A H H' v d) → Q v H'
section
variable {G : Sg} {A A' : Addr → Prop} {H H' : Hp} {Q : VK} {d : D} {f : Bool}
theorem Res.bl {b : Bool} (h : Res G A f H (.bl b) Q) : Q (.bl b) H := h _ _ (Same.refl H) (.bl b) fun _ => trivial
theorem Res.int {i : Int} (h : Res G A f H (.int i) Q) : Q (.int i) H := h _ _ (Same.refl H) (.int i) fun _ => trivial
theorem Res.str {x : Str} (h : Res G A f H (.str x) Q) : Q (.str x) H := h _ _ (Same.refl H) (.str x) fun _ => trivial
theorem Res.non (h : Res G A f H .non Q) : Q .non H := h _ _ (Same.refl H) .non fun _ => trivial
theorem Has.here {v : V} (h : Has G A H v d) : Has G (fr A H) H v d := h.mono (fun _ q => .inl q) (Same.refl H)
theorem HasL.here {vs : List V} {ds : List D} (h : HasL G A H vs ds) : HasL G (fr A H) H vs ds := h.mono (fun _ q => .inl q) (Same.refl H)
theorem same_upd {p : Addr} {o : HO} (h : H p = none) : Same H (upd H p o) := fun b x e => by
  rw [upd_ne (ne_of_none e h)]
  exact e
theorem Res.tup {ds : List D} {xs : List V} (h : Res G A f H (.tup ds) Q) (hx : HasL G A H xs ds) {p : Addr} (hp : H p = none) : Q (.ref p) (upd H p (.tup xs)) :=
  h _ _ (same_upd hp) (.tup upd_same (hx.mono (fun _ q => .inl q) (same_upd hp))) fun _ => trivial
theorem HasL.off {xs : List V} {ds : List D} (hx : HasL G A H xs ds) {p : Addr} {o : HO} (hp : H p = none) : HasL G (fun q => fr A H q ∧ q ≠ p) (L2.upd H p o) xs ds :=
  hx.there.mono (fun q z => ⟨.inl z.1, fun e => by
    subst e
    rw [hp] at z
    exact absurd z.2 Bool.false_ne_true⟩) (same_upd hp)
theorem Res.lst {ds : List D} {xs : List V} (h : Res G A f H (.lst ds) Q) (hx : HasL G A H xs ds) {p : Addr} (hp : H p = none) : Q (.ref p) (upd H p (.lst xs)) :=
  h _ _ (same_upd hp) (.lst (.inr hp) upd_same (hx.mono (fun _ q => .inl q) (same_upd hp))) fun _ => ⟨p, xs, rfl, hp, upd_same, hx.off hp⟩
theorem Res.tupH {v : V} {ds : List D} (h : Res G A f H (.tup ds) Q) (hv : Has G A H v (.tup ds)) : Q v H := h _ _ (Same.refl H) hv.here fun _ => trivial
theorem Res.here {v : V} (h : Res G A false H d Q) (hv : Has G A H v d) : Q v H := h _ _ (Same.refl H) hv.here (fun e => absurd e Bool.false_ne_true)
theorem Res.fls (h : Res G A false H d Q) : Res G A f H d Q := fun v H' s hv _ => h v H' s hv (fun e => absurd e Bool.false_ne_true)
theorem Res.tr (h : Res G A f H d Q) : Res G A true H d Q := fun v H' s hv o => h v H' s hv (fun _ => o rfl)
theorem same_tr {H1 H2 H3 : Hp} (a : Same H1 H2) (b : Same H2 H3) : Same H1 H3 := fun p o e => b p o (a p o e)
theorem same_none {H1 H2 : Hp} (a : Same H1 H2) {p : Addr} (h : H2 p = none) : H1 p = none := by
  cases e : H1 p with
  | none => rfl
  | some o => rw [a p o e] at h; cases h
theorem fr_up {q : Addr} (s : Same H H') (hA : ∀ q, A' q → fr A H q) : fr A' H' q → fr A H q := fun h => by
  rcases h with h | h
  · exact hA q h
  · exact .inr (same_none s h)
theorem Own1.up {v : V} {H2 : Hp} (s : Same H H') (hA : ∀ q, A' q → fr A H q) : ∀ {d : D}, Own1 G A' H' H2 v d → Own1 G A H H2 v d
  | .lst ds, ⟨p, xs, e, hp, h1, h2⟩ => ⟨p, xs, e, same_none s hp, h1, h2.mono (fun q z => ⟨fr_up s hA z.1, z.2⟩) (Same.refl _)⟩
  | .dct t kvs, ⟨p, e, hp, h1⟩ => ⟨p, e, same_none s hp, h1⟩
  | .non, h => h
  | .bl _, h => h
  | .int _, h => h
  | .str _, h => h
  | .tup _, h => h
  | .scr _, h => h
  | .obj _ _, h => h
theorem Res.up (s : Same H H') (hA : ∀ q, A' q → fr A H q) (h : Res G A f H d Q) : Res G A' f H' d Q := fun v H2 s2 hv o =>
  h v H2 (same_tr s s2) (hv.mono (fun q z => fr_up s hA z) (Same.refl _)) fun e => (o e).up s hA
end

/-! ### two-place operators -/
def opOf : BinO → Operator
  | .add => .Add
  | .sub => .Sub
  | .mul => .Mult
  | .fdiv => .FloorDiv
  | .mod => .Mod
  | .pow => .Pow
def rBin (G : Sg) (o : BinO) : R2 := fun x y H Q => ∃ (A : Addr → Prop) (dx dy d : D), Has G A H x dx ∧ Has G A H y dy ∧ binD o dx dy = .ok d ∧ Res G A true H d Q
theorem hasL_rep {G : Sg} {A : Addr → Prop} {H : Hp} {xs : List V} {ds : List D} (h : HasL G A H xs ds) : ∀ n : Nat, HasL G A H (List.replicate n xs).flatten (List.replicate n ds).flatten
  | 0 => .nil
  | n + 1 => by
    rw [List.replicate_succ, List.replicate_succ, List.flatten_cons, List.flatten_cons]
    exact h.append (hasL_rep h n)
theorem len_rep {α : Type} (xs : List α) : ∀ n : Nat, (List.replicate n xs).flatten.length = xs.length * n
  | 0 => by simp
  | n + 1 => by
    rw [List.replicate_succ, List.flatten_cons, List.length_append, len_rep xs n, Nat.mul_succ, Nat.add_comm]
/-! tuple * int, whatever the int -/
theorem tuple_mul1 (l : Addr) (items : Array Value) (n : Nat) (dd : Option Addr) (sl : Array (Option Value)) (x : Int) (u : Tok) (c0 : (decide (x < -(2 ^ 63)) || decide (x ≥ 2 ^ 63)) = false) (c1 : (items.isEmpty || x == 1) = true) :
    Meets (Builtin.«tuple.__mul__» ⟨[.ref l, .int x u], []⟩) (fun _ R s => s.heap.get? l = some { cls := .type "tuple", dict := dd, data := .seq items n, slots := sl } ∧ R (.ok (.ret (Value.ref l))) s) :=
  .of_wp fun prog w A R s h => by
    obtain ⟨hp, g, d, tk, os⟩ := s
    obtain ⟨hl, h⟩ := h
    have f1 := AutoSeq1.idx_int
    wp_walk using wpAny_loadPart' hl
    repeat (first
      | (refine wpAny_ite_false (decide_eq_false (by rw [c0]; exact Bool.false_ne_true)) ?_; wp_walk using wpAny_loadPart' hl)
      | (refine wpAny_ite_true (decide_eq_true c1) ?_; wp_walk using wpAny_loadPart' hl))
    exact ⟨_, rfl, h⟩
theorem tuple_mul0 (l : Addr) (items : Array Value) (n : Nat) (dd : Option Addr) (sl : Array (Option Value)) (x : Int) (u : Tok) (c0 : (decide (x < -(2 ^ 63)) || decide (x ≥ 2 ^ 63)) = false) (c1 : (items.isEmpty || x == 1) = false) (c2 : (decide (x ≤ 0) || items.isEmpty) = true) :
    Meets (Builtin.«tuple.__mul__» ⟨[.ref l, .int x u], []⟩) (fun _ R s => s.heap.get? l = some { cls := .type "tuple", dict := dd, data := .seq items n, slots := sl } ∧
      R (.ok (.ret (Value.ref s.heap.objs.size))) { s with heap := s.heap.push { cls := Value.type "tuple", data := Data.seq #[] }, toks := s.toks }) :=
  .of_wp fun prog w A R s h => by
    obtain ⟨hp, g, d, tk, os⟩ := s
    obtain ⟨hl, h⟩ := h
    have f1 := AutoSeq1.idx_int
    wp_walk using wpAny_loadPart' hl
    repeat (first
      | (refine wpAny_ite_false (decide_eq_false (by rw [c0]; exact Bool.false_ne_true)) ?_; wp_walk using wpAny_loadPart' hl)
      | (refine wpAny_ite_false (decide_eq_false (by rw [c1]; exact Bool.false_ne_true)) ?_; wp_walk using wpAny_loadPart' hl)
      | (refine wpAny_ite_true (decide_eq_true c2) ?_; wp_walk using wpAny_loadPart' hl))
    exact ⟨_, rfl, h⟩
def rRepA : R2 := fun x y H Q => ∃ l k xs, x = .ref l ∧ y = .int k ∧ H l = some (.tup xs) ∧ -(2 ^ 62) ≤ k ∧ k < 2 ^ 62 ∧ xs.length * k.toNat ≤ sizeLine ∧
  (xs = [] ∨ k = 1 → Q (.ref l) H) ∧ (¬ (xs = [] ∨ k = 1) → ∀ p, H p = none → Q (.ref p) (upd H p (.tup (List.replicate k.toNat xs).flatten)))
theorem op_repA {X : Cx} : OpR X (binaryOp .Mult) rRepA := by
  intro pins s σ H x y v u Q I rx ry h
  obtain ⟨l, k, xs, rfl, rfl, hT, hk1, hk2, hz, q1, q2⟩ := h
  cases rx
  obtain ⟨t, rfl⟩ := ry
  obtain ⟨its, r, ⟨⟨cls, dd, data, sl⟩, ho, hc, n, hd⟩, hs⟩ := I.tuple (SqT.of (K := X.K) hT)
  simp only at hc hd
  subst hc hd
  have hle : its.length = xs.length := r.length.symm
  have c0 : (decide (k < -(2 ^ 63)) || decide (k ≥ 2 ^ 63)) = false := by
    rw [decide_eq_false (by omega), decide_eq_false (by omega)] <;> rfl
  have go : ∀ {S : Bool → (Result → Shared → Prop) → Shared → Prop} {R : Value → Shared → Prop}, True → True := fun _ => trivial
  have isE : its.toArray.isEmpty = decide (xs = []) := by
    cases xs with
    | nil =>
      have : its = [] := List.eq_nil_of_length_eq_zero hle
      subst this
      rfl
    | cons a b =>
      cases its with
      | nil => simp at hle
      | cons c d => simp
  by_cases hc : xs = [] ∨ k = 1
  · have c1 : (its.toArray.isEmpty || k == 1) = true := by
      rw [isE, Bool.or_eq_true]
      rcases hc with e | e
      · exact .inl (decide_eq_true e)
      · exact .inr (beq_iff_eq.mpr e)
    refine wpAny_binaryOp_repeat_ref (T := "tuple") (U := "int") (by decide) ⟨_, ho, rfl⟩ (fun s' => typeIs_int s' k t) noFill_tuple_mul F.fills_int_mul F.slot_int_rmul repeat_tuple F.slot_int_index.lookup
      (call_meets F.slot_int_rmul (typeIs_int s k t) F.entry_int_rmul (F.args_int_rmul_2 _ _) (int_rmul_tuple k t l its.toArray n dd sl)
        ⟨ho, rfl, ⟨_, ho, rfl⟩, call_meets F.slot_tuple_mul ⟨_, ho, rfl⟩ F.entry_tuple_mul (F.args_tuple_mul_2 _ _) (tuple_mul1 l its.toArray n dd sl k t c0 c1) ⟨ho, ?_⟩⟩)
    exact ⟨.ref l, H, I, rfl, q1 hc⟩
  · have hx : xs ≠ [] := fun e => hc (.inl e)
    have hk : k ≠ 1 := fun e => hc (.inr e)
    have c1 : (its.toArray.isEmpty || k == 1) = false := by
      rw [isE, decide_eq_false hx, Bool.false_or]
      exact beq_eq_false_iff_ne.mpr hk
    by_cases h0 : k ≤ 0
    · have c2 : (decide (k ≤ 0) || its.toArray.isEmpty) = true := by
        rw [decide_eq_true h0, Bool.true_or]
      refine wpAny_binaryOp_repeat_ref (T := "tuple") (U := "int") (by decide) ⟨_, ho, rfl⟩ (fun s' => typeIs_int s' k t) noFill_tuple_mul F.fills_int_mul F.slot_int_rmul repeat_tuple F.slot_int_index.lookup
        (call_meets F.slot_int_rmul (typeIs_int s k t) F.entry_int_rmul (F.args_int_rmul_2 _ _) (int_rmul_tuple k t l its.toArray n dd sl)
          ⟨ho, rfl, ⟨_, ho, rfl⟩, call_meets F.slot_tuple_mul ⟨_, ho, rfl⟩ F.entry_tuple_mul (F.args_tuple_mul_2 _ _) (tuple_mul0 l its.toArray n dd sl k t c0 c1 c2) ⟨ho, ?_⟩⟩)
      have e0 : k.toNat = 0 := by omega
      have q := q2 hc _ (I.hok.fresh (Nat.le_refl _))
      rw [e0, List.replicate_zero, List.flatten_nil] at q
      refine ⟨.ref s.heap.objs.size, _, I.laid (t' := s.toks) (o := .tup []) (fun b ob q => Heap.get?_push_of_some _ q) (Nat.le_refl _) ?_, rfl, q⟩
      exact ⟨Nat.zero_le _, [], .nil, IsTup.new _ _⟩
    · have c2 : (decide (k ≤ 0) || its.toArray.isEmpty) = false := by
        rw [isE, decide_eq_false hx, Bool.or_false]
        exact decide_eq_false h0
      have sz : ((its.toArray.size : Nat) : Int) * k ≤ sizeLine := by
        rw [List.size_toArray, hle]
        have e : k = ((k.toNat : Nat) : Int) := (Int.toNat_of_nonneg (by omega)).symm
        rw [e]
        exact_mod_cast hz
      have sl1 : (sizeLine : Int) ≤ (2 ^ 63 - 1) / 8 := by
        rw [sizeLine_eq]
        decide
      have c3 : ¬ ((its.toArray.size : Nat) : Int) * k > (2 ^ 63 - 1) / 8 := by omega
      have c4 : Builtin.Tuple.tupleTooMany (((its.toArray.size : Nat) : Int) * k) = false := by
        unfold Builtin.Tuple.tupleTooMany
        exact decide_eq_false (by omega)
      have flen : (List.replicate k.toNat its).flatten.length ≤ sizeLine := by
        rw [len_rep, hle]
        exact hz
      refine wpAny_binaryOp_repeat_ref (T := "tuple") (U := "int") (by decide) ⟨_, ho, rfl⟩ (fun s' => typeIs_int s' k t) noFill_tuple_mul F.fills_int_mul F.slot_int_rmul repeat_tuple F.slot_int_index.lookup
        (call_meets F.slot_int_rmul (typeIs_int s k t) F.entry_int_rmul (F.args_int_rmul_2 _ _) (int_rmul_tuple k t l its.toArray n dd sl)
          ⟨ho, rfl, ⟨_, ho, rfl⟩, call_meets F.slot_tuple_mul ⟨_, ho, rfl⟩ F.entry_tuple_mul (F.args_tuple_mul_2 _ _) (tuple_mulW l its.toArray n dd sl k t c0 c1 c2 c3 c4 (by rw [size_rep, List.size_toArray]; exact flen)) ⟨ho, ?_⟩⟩)
      rw [size_rep]
      refine ⟨.ref s.heap.objs.size, _, I.laid (t' := s.toks) (o := .tup (List.replicate k.toNat xs).flatten) (fun b ob q => Heap.get?_push_of_some _ q) (Nat.le_refl _) ?_, rfl, q2 hc _ (I.hok.fresh (Nat.le_refl _))⟩
      exact ⟨by rw [len_rep]; exact hz, _, r.rep k.toNat, IsTup.new _ _⟩
theorem mulOk_ok {i j : Int} (h : mulOk i j = true) : CMul i j ∨ CMulW i j := by
  unfold mulOk small at h
  rw [Bool.or_eq_true, Bool.or_eq_true] at h
  rcases h with (h | h) | h
  · obtain ⟨h1, h2⟩ := bb h
    exact .inl (.inl ⟨of_decide_eq_true h1, of_decide_eq_true h2⟩)
  · obtain ⟨h1, h2⟩ := bb h
    exact .inl (.inr ⟨of_decide_eq_true h1, of_decide_eq_true h2⟩)
  · exact .inr (show CMulW i j from of_decide_eq_true (p := i.natAbs.log2 + j.natAbs.log2 < 1000000) h)
theorem op_bin {G : Sg} {X : Cx} (hG : X.K = G.K) (o : BinO) : OpR X (binaryOp (opOf o)) (rBin G o) := by
  intro pins s σ H x y v u Q I rx ry h
  obtain ⟨A, dx, dy, d, hx, hy, e, q⟩ := h
  unfold binD at e
  split at e
  · -- ints
    cases hx; cases hy; cases e
    exact op_add pins s σ H _ _ v u Q I rx ry ⟨_, _, rfl, rfl, q.int⟩
  · obtain ⟨c, e⟩ := guardR_ok e
    cases hx; cases hy; cases e
    exact op_add_str pins s σ H _ _ v u Q I rx ry ⟨_, _, rfl, rfl, by rw [← line_eq]; exact of_decide_eq_true c, q.str⟩
  · obtain ⟨c, e⟩ := guardR_ok e
    cases hx with
    | tup h1 h2 =>
      cases hy with
      | tup h3 h4 =>
        cases e
        refine op_catA pins s σ H _ _ v u Q I rx ry ⟨_, _, _, _, rfl, rfl, .of h1, .of h3, ?_, fun e0 => ?_, fun _ e0 => ?_, fun _ _ p hp => ?_⟩
        · rw [← line_eq, h2.length, h4.length]
          exact of_decide_eq_true c
        · subst e0
          cases h2
          exact q.tupH (.tup h3 h4)
        · subst e0
          cases h4
          rw [List.append_nil] at q
          exact q.tupH (.tup h1 h2)
        · exact q.tup (h2.append h4) hp
  · obtain ⟨c, e⟩ := guardR_ok e
    cases hx with
    | lst h0 h1 h2 =>
      cases hy with
      | lst h0' h3 h4 =>
        cases e
        refine op_cat pins s σ H _ _ v u Q I rx ry ⟨_, _, _, _, rfl, rfl, h1, h3, ?_, fun p hp => ?_⟩
        · rw [← line_eq, h2.length, h4.length]
          exact of_decide_eq_true c
        · exact q.lst (h2.append h4) hp
  · cases hx; cases hy; cases e
    exact op_sub pins s σ H _ _ v u Q I rx ry ⟨_, _, rfl, rfl, q.int⟩
  · obtain ⟨c, e⟩ := guardR_ok e
    obtain ⟨c1, c2⟩ := bb c
    obtain ⟨c3, c4⟩ := bb c1
    cases hx with
    | tup h1 h2 =>
      cases hy
      cases e
      refine op_repA pins s σ H _ _ v u Q I rx ry ⟨_, _, _, rfl, rfl, h1, of_decide_eq_true c3, of_decide_eq_true c4, ?_, fun e0 => ?_, fun _ p hp => ?_⟩
      · rw [← line_eq, h2.length]
        exact of_decide_eq_true c2
      · refine q.tupH ?_
        rcases e0 with e0 | e0
        · subst e0
          cases h2
          have z : ∀ n, (List.replicate n ([] : List D)).flatten = [] := fun n => List.eq_nil_of_length_eq_zero (by rw [len_rep]; simp)
          rw [z]
          exact .tup h1 .nil
        · subst e0
          have z : ∀ xs : List D, (List.replicate (1 : Int).toNat xs).flatten = xs := fun xs => by simp
          rw [z]
          exact .tup h1 h2
      · exact q.tup (hasL_rep h2 _) hp
  · obtain ⟨c, e⟩ := guardR_ok e
    obtain ⟨c1, c2⟩ := bb c
    obtain ⟨c3, c4⟩ := bb c1
    cases hx with
    | lst h0 h1 h2 =>
      cases hy
      cases e
      have k1 := of_decide_eq_true c3
      have k2 := of_decide_eq_true c4
      refine op_rep pins s σ H _ _ v u Q I rx ry ⟨_, _, _, rfl, rfl, h1, by omega, by omega, ?_, fun p hp => ?_⟩
      · rw [← line_eq, h2.length]
        exact of_decide_eq_true c2
      · exact q.lst (hasL_rep h2 _) hp
  · obtain ⟨c, e⟩ := guardR_ok e
    cases hx; cases hy; cases e
    rcases mulOk_ok c with c | c
    · exact op_mul pins s σ H _ _ v u Q I rx ry ⟨_, _, rfl, rfl, c, q.int⟩
    · exact op_mulW pins s σ H _ _ v u Q I rx ry ⟨_, _, rfl, rfl, c, q.int⟩
  · obtain ⟨c, e⟩ := guardR_ok e
    obtain ⟨c1, c2⟩ := bb c
    cases hx; cases hy; cases e
    exact op_fdivW pins s σ H _ _ v u Q I rx ry ⟨_, _, rfl, rfl, ⟨of_decide_eq_true c1, of_decide_eq_true c2⟩, q.int⟩
  · obtain ⟨c, e⟩ := guardR_ok e
    cases hx; cases hy; cases e
    exact op_mod pins s σ H _ _ v u Q I rx ry ⟨_, _, rfl, rfl, of_decide_eq_true c, q.int⟩
  · obtain ⟨c, e⟩ := guardR_ok e
    obtain ⟨c1, c2⟩ := bb c
    obtain ⟨c3, c4⟩ := bb c1
    obtain ⟨c5, c6⟩ := bb c2
    cases hx; cases hy; cases e
    have k1 := of_decide_eq_true c5
    have k2 := of_decide_eq_true c6
    exact op_pow pins s σ H _ _ v u Q I rx ry ⟨_, _, rfl, rfl, ⟨of_decide_eq_true c3, of_decide_eq_true c4, by omega⟩, q.int⟩
  · cases e
end PD
end

section
set_option Elab.async false
set_option linter.all false
set_option maxRecDepth 100000
set_option maxHeartbeats 4000000
/-! PD, part 4: comparisons. -/
namespace PD
open PySem PySem.Spec PyProof.Rows L2

/-! ### keys -/
theorem eqv_keyD (a b : Key) : PyData.eqv (toP (keyD a)) (toP (keyD b)) = decide (a = b) := by
  cases a <;> cases b <;> simp [keyD, toP, PyData.eqv] <;> rw [Bool.eq_iff_iff] <;> simp
theorem eqv_keyDs : ∀ a b : List Key, PyData.eqvAll (toPs (a.map keyD)) (toPs (b.map keyD)) = decide (a = b)
  | [], [] => by simp [toPs, PyData.eqvAll]
  | [], b :: bs => by simp [toPs, PyData.eqvAll]
  | a :: as, [] => by simp [toPs, PyData.eqvAll]
  | a :: as, b :: bs => by
    rw [List.map_cons, List.map_cons, toPs, toPs, PyData.eqvAll, eqv_keyD, eqv_keyDs as bs, Bool.eq_iff_iff]
    simp
theorem eqD_keyT (a b : List Key) : eqD (.tup (a.map keyD)) (.tup (b.map keyD)) = decide (a = b) := by
  unfold eqD
  rw [toP, toP, PyData.eqv]
  exact eqv_keyDs a b
theorem eqD_key (a b : Key) : eqD (keyD a) (keyD b) = decide (a = b) := eqv_keyD a b
section
variable {G : Sg} {A : Addr → Prop} {H : Hp}
theorem key_int {v : V} {x : D} (h : Has G A H v x) (k : keyOk false x = true) : ∃ key : Key, x = keyD key ∧ v = kV key := by
  cases x with
  | int i => cases h; exact ⟨.inl i, rfl, rfl⟩
  | str s => cases h; exact ⟨.inr s, rfl, rfl⟩
  | _ => simp [keyOk] at k
theorem keys_of : ∀ {xs : List D} {vs : List V}, HasL G A H vs xs → xs.all isAtom = true → ∃ ks : List Key, xs = ks.map keyD ∧ vs = ks.map kV
  | [], _, h, _ => by cases h; exact ⟨[], rfl, rfl⟩
  | x :: xs, _, h, k => by
    rw [List.all_cons] at k
    obtain ⟨k1, k2⟩ := bb k
    cases h with
    | cons h1 h2 =>
      obtain ⟨ks, e1, e2⟩ := keys_of h2 k2
      subst e1 e2
      cases x with
      | int i => cases h1; exact ⟨.inl i :: ks, rfl, rfl⟩
      | str s => cases h1; exact ⟨.inr s :: ks, rfl, rfl⟩
      | _ => simp [isAtom] at k1
theorem key_tup {v : V} {x : D} (h : Has G A H v x) (k : keyOk true x = true) : ∃ (ks : List Key) (b : Addr), x = .tup (ks.map keyD) ∧ v = .ref b ∧ H b = some (.tup (ks.map kV)) := by
  cases x with
  | tup xs =>
    cases h with
    | tup h1 h2 =>
      obtain ⟨ks, e1, e2⟩ := keys_of h2 (by simpa [keyOk] using k)
      subst e1 e2
      exact ⟨ks, _, rfl, rfl, h1⟩
  | _ => simp [keyOk] at k
theorem findK_of {κ : Type} [DecidableEq κ] {f : κ → D} (inj : ∀ a b, eqD (f a) (f b) = decide (a = b)) (k : κ) : ∀ {kvs : List (κ × V)} {ds : List (D × D)}, ds.map Prod.fst = kvs.map (fun p => f p.1) → HasL G A H (kvs.map Prod.snd) (ds.map Prod.snd) →
    (findK ds (f k) = none ∧ valV kvs k = none) ∨ ∃ d v, findK ds (f k) = some d ∧ valV kvs k = some v ∧ Has G A H v d
  | [], [], _, _ => .inl ⟨rfl, rfl⟩
  | [], _ :: _, e, _ => by simp at e
  | _ :: _, [], e, _ => by simp at e
  | (k', v) :: kvs, (x, d) :: ds, e, h => by
    rw [List.map_cons, List.map_cons] at e h
    injection e with e1 e2
    have e1 : x = f k' := e1
    subst e1
    cases h with
    | cons h1 h2 =>
      have ih := findK_of inj k e2 h2
      by_cases q : k' = k
      · refine .inr ⟨d, v, ?_, valV_pos (p := (k', v)) q, h1⟩
        unfold findK
        rw [List.find?_cons_of_pos]
        · rfl
        · show eqD (f k') (f k) = true
          rw [inj]
          exact decide_eq_true q
      · have e3 : findK ((f k', d) :: ds) (f k) = findK ds (f k) := by
          unfold findK
          rw [List.find?_cons_of_neg]
          show ¬ eqD (f k') (f k) = true
          rw [inj, decide_eq_false q]
          exact Bool.false_ne_true
        rw [e3, valV_neg (p := (k', v)) q]
        exact ih
/-- what a dict holds at a key -/
theorem dget {A' : Addr → Prop} {a : Addr} {t : Bool} {kvs : List (D × D)} {x : D} {y : V} (hd : Has G A H (.ref a) (.dct t kvs)) (hx : Has G A' H y x) (k : keyOk t x = true) :
    (findK kvs x = none ∧ DGet H a y none) ∨ ∃ d v, findK kvs x = some d ∧ DGet H a y (some v) ∧ Has G A H v d := by
  cases hd with
  | dK h0 h1 h2 h3 =>
    obtain ⟨key, e1, e2⟩ := key_int hx k
    subst e1 e2
    rcases findK_of eqD_key key h2 h3 with ⟨q1, q2⟩ | ⟨d, v, q1, q2, q3⟩
    · exact .inl ⟨q1, .inl ⟨_, key, h1, rfl, q2.symm⟩⟩
    · exact .inr ⟨d, v, q1, .inl ⟨_, key, h1, rfl, q2.symm⟩, q3⟩
  | dT h0 h1 h2 h3 =>
    obtain ⟨ks, b, e1, e2, e3⟩ := key_tup hx k
    subst e1 e2
    rcases findK_of (f := fun ks : List Key => D.tup (ks.map keyD)) eqD_keyT ks h2 h3 with ⟨q1, q2⟩ | ⟨d, v, q1, q2, q3⟩
    · exact .inl ⟨q1, .inr ⟨_, ks, b, h1, rfl, e3, q2.symm⟩⟩
    · exact .inr ⟨d, v, q1, .inr ⟨_, ks, b, h1, rfl, e3, q2.symm⟩, q3⟩
end

/-! ### comparisons -/
def cOp : CmpO → CmpOp
  | .eq => .Eq
  | .ne => .NotEq
  | .lt => .Lt
  | .le => .LtE
  | .gt => .Gt
  | .ge => .GtE
  | .isin => .In
  | .notin => .NotIn
  | .iss => .Is
  | .isnt => .IsNot
def rCmp (G : Sg) (o : CmpO) : R2 := fun x y H Q => ∃ (A : Addr → Prop) (dx dy : D) (b : Bool), Has G A H x dx ∧ Has G A H y dy ∧ cmpD o dx dy = .ok (.bl b) ∧ Q (.bl b) H
theorem cmpD_bl {o : CmpO} {x y d : D} (h : cmpD o x y = .ok d) : ∃ b, d = .bl b := by
  unfold cmpD at h
  split at h <;> first
    | (obtain ⟨_, h⟩ := guardR_ok h; exact ⟨_, (ok_inj h).symm⟩)
    | cases h
theorem cmpD_exc {o : CmpO} {x y : D} {e : Xc} (h : cmpD o x y = .exc e) : False := by
  unfold cmpD at h
  split at h <;> first
    | cases h
    | (obtain ⟨_, h⟩ := guardR_exc h; cases h)
theorem ordOk_ok {x y : D} (h : ordOk x y = true) : plain x = true ∧ plain y = true ∧ PySem.W.alike (toP x) (toP y) = true ∧ toP x ≠ .none ∧ min (toP x).depth (toP y).depth ≤ 60 := by
  unfold ordOk at h
  obtain ⟨h, h5⟩ := bb h
  obtain ⟨h, h4⟩ := bb h
  obtain ⟨h, h3⟩ := bb h
  obtain ⟨h1, h2⟩ := bb h
  refine ⟨h1, h2, h3, ?_, of_decide_eq_true h5⟩
  cases x <;> simp_all [toP]
theorem any_toPs (x : D) : ∀ ys : List D, ((toPs ys).any fun y => PyData.eqv y (toP x)) = ys.any fun y => eqD y x
  | [] => by simp [toPs]
  | y :: ys => by rw [toPs, List.any_cons, List.any_cons, any_toPs x ys]; rfl
theorem op_cmp {G : Sg} {X : Cx} (hG : X.K = G.K) (hu : X.A.units + 64 < cLine) (o : CmpO) : OpR X (compareOp (cOp o)) (rCmp G o) := by
  intro pins s σ H x y v u Q I rx ry h
  obtain ⟨A, dx, dy, b, hx, hy, e, q⟩ := h
  have rd : ∀ {x : V} {v : Value} {dx : D}, RelV x v → Has G A H x dx → plain dx = true → ∃ as, Reads s.heap v (toP dx) as := fun {x v dx} rx hx p =>
    Dp.reads I (toP dx) x v (by rw [hG]; exact hx.dp p) rx
  unfold cmpD at e
  split at e
  · obtain ⟨c, e⟩ := guardR_ok e
    cases e
    unfold eqOk at c
    obtain ⟨c, c3⟩ := bb c
    obtain ⟨c1, c2⟩ := bb c
    obtain ⟨as, r1⟩ := rd rx hx c1
    obtain ⟨bs, r2⟩ := rd ry hy c2
    have c3 := of_decide_eq_true c3
    unfold deep at c3
    exact SeqAt.eq_plain r1 r2 (toP_plain _ c1) (toP_plain _ c2) (by omega) ⟨.bl _, H, I, rfl, q⟩
  · obtain ⟨c, e⟩ := guardR_ok e
    cases e
    unfold eqOk at c
    obtain ⟨c, c3⟩ := bb c
    obtain ⟨c1, c2⟩ := bb c
    obtain ⟨as, r1⟩ := rd rx hx c1
    obtain ⟨bs, r2⟩ := rd ry hy c2
    have c3 := of_decide_eq_true c3
    unfold deep at c3
    exact SeqAt.ne_plain r1 r2 (toP_plain _ c1) (toP_plain _ c2) (by omega) ⟨.bl _, H, I, rfl, q⟩
  · obtain ⟨c, e⟩ := guardR_ok e
    cases e
    obtain ⟨c1, c2, c3, c4, c5⟩ := ordOk_ok c
    obtain ⟨as, r1⟩ := rd rx hx c1
    obtain ⟨bs, r2⟩ := rd ry hy c2
    exact PySem.W.lt_data r1 r2 c3 c4 (by omega) ⟨.bl _, H, I, rfl, q⟩
  · obtain ⟨c, e⟩ := guardR_ok e
    cases e
    obtain ⟨c1, c2, c3, c4, c5⟩ := ordOk_ok c
    obtain ⟨as, r1⟩ := rd rx hx c1
    obtain ⟨bs, r2⟩ := rd ry hy c2
    exact PySem.W.le_data r1 r2 c3 c4 (by omega) ⟨.bl _, H, I, rfl, q⟩
  · obtain ⟨c, e⟩ := guardR_ok e
    cases e
    obtain ⟨c1, c2, c3, c4, c5⟩ := ordOk_ok c
    obtain ⟨as, r1⟩ := rd rx hx c1
    obtain ⟨bs, r2⟩ := rd ry hy c2
    exact PySem.W.gt_data r1 r2 c3 c4 (by omega) ⟨.bl _, H, I, rfl, q⟩
  · obtain ⟨c, e⟩ := guardR_ok e
    cases e
    obtain ⟨c1, c2, c3, c4, c5⟩ := ordOk_ok c
    obtain ⟨as, r1⟩ := rd rx hx c1
    obtain ⟨bs, r2⟩ := rd ry hy c2
    exact PySem.W.ge_data r1 r2 c3 c4 (by omega) ⟨.bl _, H, I, rfl, q⟩
  · obtain ⟨c, e⟩ := guardR_ok e
    cases e
    obtain ⟨c, c3⟩ := bb c
    obtain ⟨c1, c2⟩ := bb c
    have c3 := of_decide_eq_true c3
    unfold deep at c3
    obtain ⟨as, r1⟩ := rd rx hx c1
    obtain ⟨bs, r2⟩ := rd ry hy (by rw [plain]; exact c2)
    rw [toP] at r2
    refine SeqAt.in_list_data r2 r1 (toPs_plain _ c2) (toP_plain _ c1) (by omega) ⟨.bl _, H, I, rfl, ?_⟩
    rw [any_toPs]
    exact q
  · obtain ⟨c, e⟩ := guardR_ok e
    cases e
    obtain ⟨c, c3⟩ := bb c
    obtain ⟨c1, c2⟩ := bb c
    have c3 := of_decide_eq_true c3
    unfold deep at c3
    obtain ⟨as, r1⟩ := rd rx hx c1
    obtain ⟨bs, r2⟩ := rd ry hy (by rw [plain]; exact c2)
    rw [toP] at r2
    refine SeqAt.in_tuple_data r2 r1 (toPs_plain _ c2) (toP_plain _ c1) (by omega) ⟨.bl _, H, I, rfl, ?_⟩
    rw [any_toPs]
    exact q
  · obtain ⟨c, e⟩ := guardR_ok e
    cases e
    obtain ⟨c, c3⟩ := bb c
    obtain ⟨c1, c2⟩ := bb c
    have c3 := of_decide_eq_true c3
    unfold deep at c3
    obtain ⟨as, r1⟩ := rd rx hx c1
    obtain ⟨bs, r2⟩ := rd ry hy (by rw [plain]; exact c2)
    rw [toP] at r2
    refine SeqAt.notIn_list_data r2 r1 (toPs_plain _ c2) (toP_plain _ c1) (by omega) ⟨.bl _, H, I, rfl, ?_⟩
    rw [any_toPs]
    exact q
  · obtain ⟨c, e⟩ := guardR_ok e
    cases e
    obtain ⟨c, c3⟩ := bb c
    obtain ⟨c1, c2⟩ := bb c
    have c3 := of_decide_eq_true c3
    unfold deep at c3
    obtain ⟨as, r1⟩ := rd rx hx c1
    obtain ⟨bs, r2⟩ := rd ry hy (by rw [plain]; exact c2)
    rw [toP] at r2
    refine SeqAt.notIn_tuple_data r2 r1 (toPs_plain _ c2) (toP_plain _ c1) (by omega) ⟨.bl _, H, I, rfl, ?_⟩
    rw [any_toPs]
    exact q
  · obtain ⟨c, e⟩ := guardR_ok e
    cases e
    have ⟨a, ea⟩ : ∃ a, y = .ref a := by cases hy <;> exact ⟨_, rfl⟩
    subst ea
    cases ry
    rename_i t kvs
    have r : ∃ o, DGet H a x o ∧ o.isSome = (findK kvs dx).isSome := by
      rcases dget hy hx c with ⟨q1, q2⟩ | ⟨d, v, q1, q2, q3⟩
      · exact ⟨_, q2, by rw [q1]; rfl⟩
      · exact ⟨_, q2, by rw [q1]; rfl⟩
    obtain ⟨o, r1, r2⟩ := r
    refine d_in (by omega) I r1 rx fun s' I' => ⟨.bl _, H, I', rfl, ?_⟩
    rw [r2]
    exact q
  · obtain ⟨c, e⟩ := guardR_ok e
    cases e
    have ⟨a, ea⟩ : ∃ a, y = .ref a := by cases hy <;> exact ⟨_, rfl⟩
    subst ea
    cases ry
    rename_i t kvs
    have r : ∃ o, DGet H a x o ∧ o.isSome = (findK kvs dx).isSome := by
      rcases dget hy hx c with ⟨q1, q2⟩ | ⟨d, v, q1, q2, q3⟩
      · exact ⟨_, q2, by rw [q1]; rfl⟩
      · exact ⟨_, q2, by rw [q1]; rfl⟩
    obtain ⟨o, r1, r2⟩ := r
    refine d_notIn (by omega) I r1 rx fun s' I' => ⟨.bl _, H, I', rfl, ?_⟩
    rw [r2]
    exact q
  · obtain ⟨c, e⟩ := guardR_ok e
    cases e
    cases hx
    cases hy
    exact op_is_bl pins s σ H _ _ _ _ Q I rx ry ⟨_, _, rfl, rfl, q⟩
  · obtain ⟨c, e⟩ := guardR_ok e
    cases e
    cases hx
    cases hy
    exact op_isnot_bl pins s σ H _ _ _ _ Q I rx ry ⟨_, _, rfl, rfl, q⟩
  · cases e
end PD
end

section
set_option Elab.async false
set_option linter.all false
set_option maxRecDepth 100000
set_option maxHeartbeats 4000000
/-! PD, part 5: builtins, subscripts, slices, truth. -/
namespace PD
open PySem PySem.Spec PyProof.Rows L2

def bltV : Blt → Value
  | .len => .builtin "len"
  | .tupleOf => .type "tuple"
  | .listOf => .type "list"
  | .abs => .builtin "abs"
  | .intOf => .type "int"
  | .strOf => .type "str"
  | .all => .builtin "all"
  | .any => .builtin "any"
  | .sum => .builtin "sum"
  | .min1 => .builtin "min"
  | .max1 => .builtin "max"
  | .min2 => .builtin "min"
  | .max2 => .builtin "max"
  | .sorted => .builtin "sorted"
def rBi (G : Sg) (b : Blt) : List V → Hp → VK → Prop := fun vs H Q => ∃ (A : Addr → Prop) (ds : List D) (d : D), HasL G A H vs ds ∧ biD b ds = .ok d ∧ Res G A b.new H d Q
theorem biD_exc {b : Blt} {xs : List D} {e : Xc} (h : biD b xs = .exc e) : False := by
  unfold biD at h
  split at h <;> first
    | cases h
    | (rcases bind_exc h with h | ⟨_, _, h⟩
       · exact ofO_exc h
       · cases h)
    | (have h := (guardR_exc h).2; cases h)
section
variable {G : Sg} {A : Addr → Prop} {H : Hp}
theorem one {vs : List V} {d : D} (h : HasL G A H vs [d]) : ∃ v, vs = [v] ∧ Has G A H v d := by
  cases h with
  | cons h1 h2 => cases h2; exact ⟨_, rfl, h1⟩
theorem two {vs : List V} {d e : D} (h : HasL G A H vs [d, e]) : ∃ v w, vs = [v, w] ∧ Has G A H v d ∧ Has G A H w e := by
  cases h with
  | cons h1 h2 =>
    obtain ⟨w, e, h3⟩ := one h2
    subst e
    exact ⟨_, w, rfl, h1, h3⟩
theorem has_bls : ∀ {ds : List D} {bs : List Bool} {vs : List V}, isBls ds = some bs → HasL G A H vs ds → vs = bs.map V.bl
  | [], _, _, e, h => by cases e; cases h; rfl
  | d :: ds, bs, _, e, h => by
    cases d with
    | bl b =>
      rw [isBls, Option.map_eq_some_iff] at e
      obtain ⟨bs', e1, e2⟩ := e
      subst e2
      cases h with
      | cons h1 h2 =>
        cases h1
        rw [has_bls e1 h2]
        rfl
    | _ => cases e
theorem has_ints : ∀ {ds : List D} {is : List Int} {vs : List V}, isInts ds = some is → HasL G A H vs ds → vs = is.map V.int
  | [], _, _, e, h => by cases e; cases h; rfl
  | d :: ds, is, _, e, h => by
    cases d with
    | int b =>
      rw [isInts, Option.map_eq_some_iff] at e
      obtain ⟨bs', e1, e2⟩ := e
      subst e2
      cases h with
      | cons h1 h2 =>
        cases h1
        rw [has_ints e1 h2]
        rfl
    | _ => cases e
end
theorem has_keys {G : Sg} {A : Addr → Prop} {H : Hp} : ∀ kvs : List (Key × V), HasL G A H (kvs.map fun kv => kV kv.1) (kvs.map fun p => keyD p.1)
  | [] => .nil
  | (k, v) :: kvs => .cons (by cases k with
    | inl i => exact .int i
    | inr s => exact .str s) (has_keys kvs)
theorem toPs_map : ∀ ds : List D, toPs ds = ds.map toP
  | [] => by rw [toPs]; rfl
  | d :: ds => by rw [toPs, List.map_cons, toPs_map ds]
theorem plains_iff : ∀ {ds : List D}, plains ds = true → ∀ d ∈ ds, plain d = true
  | [], _, d, h => absurd h (by simp)
  | x :: ds, p, d, h => by
    rw [plains] at p
    obtain ⟨p1, p2⟩ := bb p
    rcases List.mem_cons.mp h with e | h
    · rw [e]; exact p1
    · exact plains_iff p2 d h
theorem depthAll_le : ∀ {ds : List D} {n : Nat}, (∀ d ∈ ds, (toP d).depth ≤ n) → PyData.depthAll (toPs ds) ≤ n
  | [], n, _ => by rw [toPs]; simp [PyData.depthAll]
  | d :: ds, n, h => by
    rw [toPs, PyData.depthAll]
    have h1 := h d List.mem_cons_self
    have h2 := depthAll_le (ds := ds) (n := n) fun x hx => h x (List.mem_cons_of_mem _ hx)
    omega
theorem sortOk_ok {ds : List D} (h : sortOk ds = true) : plains ds = true ∧ PySem.W.AlikeAll (toPs ds) ∧ (∀ d ∈ ds, (toP d).depth ≤ 60) := by
  unfold sortOk at h
  obtain ⟨h, h3⟩ := bb h
  obtain ⟨h1, h2⟩ := bb h
  rw [List.all_eq_true] at h2 h3
  refine ⟨h1, ⟨fun x hx y hy => ?_, fun x hx => ?_⟩, fun d hd => ?_⟩
  · rw [toPs_map] at hx hy
    obtain ⟨a, ha, rfl⟩ := List.mem_map.mp hx
    obtain ⟨b, hb, rfl⟩ := List.mem_map.mp hy
    exact List.all_eq_true.mp (h2 a ha) b hb
  · rw [toPs_map] at hx
    obtain ⟨a, ha, rfl⟩ := List.mem_map.mp hx
    have z := h3 a ha
    cases a <;> simp_all [toP]
  · exact of_decide_eq_true (bb (h3 d hd)).2
theorem toP_min (x : D) : ∀ xs : List D, toP (minDD x xs) = PySem.W.minD (toP x) (toPs xs) := by
  intro xs
  unfold minDD PySem.W.minD
  induction xs generalizing x with
  | nil => rw [toPs]; rfl
  | cons y ys ih =>
    rw [toPs, List.foldl_cons, List.foldl_cons, ih]
    congr 1
    unfold ltD
    split <;> rfl
theorem toP_max (x : D) : ∀ xs : List D, toP (maxDD x xs) = PySem.W.maxD (toP x) (toPs xs) := by
  intro xs
  unfold maxDD PySem.W.maxD
  induction xs generalizing x with
  | nil => rw [toPs]; rfl
  | cons y ys ih =>
    rw [toPs, List.foldl_cons, List.foldl_cons, ih]
    congr 1
    unfold ltD
    split <;> rfl
theorem min_mem (x : D) : ∀ xs : List D, minDD x xs ∈ x :: xs := by
  intro xs
  unfold minDD
  induction xs generalizing x with
  | nil => exact List.mem_cons_self
  | cons y ys ih =>
    rw [List.foldl_cons]
    split
    · exact List.mem_cons_of_mem _ (ih y)
    · rcases List.mem_cons.mp (ih x) with e | e
      · rw [e]; exact List.mem_cons_self
      · exact List.mem_cons_of_mem _ (List.mem_cons_of_mem _ e)
theorem max_mem (x : D) : ∀ xs : List D, maxDD x xs ∈ x :: xs := by
  intro xs
  unfold maxDD
  induction xs generalizing x with
  | nil => exact List.mem_cons_self
  | cons y ys ih =>
    rw [List.foldl_cons]
    split
    · exact List.mem_cons_of_mem _ (ih y)
    · rcases List.mem_cons.mp (ih x) with e | e
      · rw [e]; exact List.mem_cons_self
      · exact List.mem_cons_of_mem _ (List.mem_cons_of_mem _ e)
section
variable {G : Sg} {X : Cx}
/-- an item of a list that the library names by what it reads as -/
theorem best {pins : List (Addr × Obj)} {s : Shared} {σ : L2.St} {H : Hp} {A : Addr → Prop} (hG : X.K = G.K) (I : Inv X pins σ H s) {its : List Value} {xs : List V} {ds : List D} {m : D} (rv : Vals xs its) (hl : HasL G A H xs ds) (hp : plains ds = true) (hm : m ∈ ds)
    {i : Nat} {v : Value} {h' : Heap} {bs : List Addr} (ev : its.toArray[i]? = some v) (rd : Reads h' v (toP m) bs) (k : ∀ b o, s.heap.get? b = some o → h'.get? b = some o) : ∃ x, RelV x v ∧ Has G A H x m := by
  have ev : its[i]? = some v := by simpa using ev
  have hi : i < its.length := (List.getElem?_eq_some_iff.mp ev).1
  have hix : i < xs.length := by rw [rv.length]; exact hi
  obtain ⟨u, eu, ru⟩ := rv.get (List.getElem?_eq_getElem hix)
  rw [ev] at eu
  cases eu
  obtain ⟨d, ed, hd⟩ := hl.getV (List.getElem?_eq_getElem hix)
  have hpd := plains_iff hp d (List.mem_of_getElem? ed)
  obtain ⟨as, r1⟩ := Dp.reads I (toP d) _ _ (by rw [hG]; exact hd.dp hpd) ru
  have e := SeqAt.plain_unique _ _ _ _ _ (toP_plain d hpd) (PyProof.Rows.Reads.keeps k r1) rd
  have e2 := toP_inj d m hpd (plains_iff hp m hm) e
  subst e2
  exact ⟨_, ru, hd⟩
theorem each_of {R : Value → D → Prop} {A : Addr → Prop} {H : Hp} : ∀ {vs : List Value} {xs : List V} {ds : List D}, Vals xs vs → HasL G A H xs ds → (∀ v x d, RelV x v → Has G A H x d → d ∈ ds → R v d) → PySem.W.EachIs R vs ds
  | _, _, [], r, h, _ => by
    cases h
    cases r
    exact .nil
  | _, _, d :: ds, r, h, f => by
    cases h with
    | cons h1 h2 =>
      cases r with
      | cons r1 r2 => exact .cons (f _ _ _ r1 h1 List.mem_cons_self) (each_of r2 h2 fun v x d r h m => f v x d r h (List.mem_cons_of_mem _ m))
theorem of_each {A : Addr → Prop} {H : Hp} : ∀ {vs : List Value} {ds : List D}, PySem.W.EachIs (fun v d => ∃ x, RelV x v ∧ Has G A H x d) vs ds → ∃ xs, Vals xs vs ∧ HasL G A H xs ds
  | _, _, .nil => ⟨[], .nil, .nil⟩
  | _, _, .cons ⟨x, r, h⟩ t => by
    obtain ⟨xs, r2, h2⟩ := of_each t
    exact ⟨x :: xs, .cons r r2, .cons h h2⟩
theorem sortable_ok {ds : List D} (h : tups1 ds = true) (h0 : PySem.W.AlikeAll (toPs ds)) : PySem.W.Sortable (ds.map toP) := by
  unfold tups1 at h
  rcases Bool.or_eq_true_iff.mp h with h | h
  · refine .inl fun d hd => ?_
    obtain ⟨x, hx, rfl⟩ := List.mem_map.mp hd
    have z := List.all_eq_true.mp h x hx
    cases x with
    | tup xs =>
      cases xs with
      | nil => simp at z
      | cons y ys => exact ⟨toP y, toPs ys, by rw [toP, toPs]⟩
    | _ => simp at z
  · refine .inr fun d hd => ?_
    obtain ⟨x, hx, rfl⟩ := List.mem_map.mp hd
    have z := List.all_eq_true.mp h x hx
    refine ⟨h0.2 _ (by rw [toPs_map]; exact hd), fun xs e => ?_⟩
    cases x <;> simp_all [toP]
theorem call_bi (hG : X.K = G.K) (hc : X.calm = true) (hu : X.A.units + 64 < cLine) (b : Blt) : CallR X (bltV b) (rBi G b) := by
  intro pins s σ H vs us Q I r h
  obtain ⟨A, ds, d, hl, e, q⟩ := h
  unfold biD at e
  split at e
  · obtain ⟨c, e⟩ := guardR_ok e
    cases e
    obtain ⟨v, rfl, hv⟩ := one hl
    cases hv
    exact call_len_str pins s σ H _ us Q I r ⟨_, rfl, by rw [← line_eq]; exact of_decide_eq_true c, q.int⟩
  · cases e
    obtain ⟨v, rfl, hv⟩ := one hl
    cases hv with
    | tup h1 h2 => exact call_len_seq pins s σ H _ us Q I r ⟨_, _, rfl, .inr (.of h1), by rw [h2.length]; exact q.int⟩
  · cases e
    obtain ⟨v, rfl, hv⟩ := one hl
    cases hv with
    | lst h0 h1 h2 => exact call_len_seq pins s σ H _ us Q I r ⟨_, _, rfl, .inl (.of h1), by rw [h2.length]; exact q.int⟩
  · cases e
    obtain ⟨v, rfl, hv⟩ := one hl
    cases hv with
    | scr h1 h2 => exact call_len_seq pins s σ H _ us Q I r ⟨_, _, rfl, .inl (h1.sq hG), by rw [h2.length]; exact q.int⟩
  · cases e
    obtain ⟨v, rfl, hv⟩ := one hl
    cases hv with
    | dK h0 h1 h2 h3 =>
      have hn := congrArg List.length h2
      rw [List.length_map, List.length_map] at hn
      obtain ⟨u, rfl, ru⟩ := vals1 r
      cases ru
      refine d_len I h1 fun t s' I' => ⟨.int _, H, I', ⟨_, rfl⟩, ?_⟩
      rw [← hn]
      exact q.int
    | dT h0 h1 h2 h3 =>
      have hn := congrArg List.length h2
      rw [List.length_map, List.length_map] at hn
      obtain ⟨u, rfl, ru⟩ := vals1 r
      cases ru
      obtain ⟨z, hd, ys, rel, dd⟩ := dt_rd I.hok h1
      have hl2 := Paired.length rel
      refine call_len_dictH hd dd (by rw [← hl2]; rw [sizeLine_eq] at z; omega) ?_
      refine ⟨.int _, H, I.tok _, ⟨_, rfl⟩, ?_⟩
      rw [← hl2, ← hn]
      exact q.int
  · cases e
    obtain ⟨v, rfl, hv⟩ := one hl
    cases hv with
    | tup h1 h2 => exact call_tuple_of pins s σ H _ us Q I r ⟨_, _, rfl, .inr ⟨.of h1, q.tupH (.tup h1 h2)⟩⟩
  · cases e
    obtain ⟨v, rfl, hv⟩ := one hl
    cases hv with
    | lst h0 h1 h2 => exact call_tuple_of pins s σ H _ us Q I r ⟨_, _, rfl, .inl ⟨.of h1, fun l hn => q.tup h2 hn⟩⟩
  · cases e
    obtain ⟨v, rfl, hv⟩ := one hl
    cases hv with
    | tup h1 h2 => exact call_list_of pins s σ H _ us Q I r ⟨_, _, rfl, .inr (.of h1), fun l hn => q.lst h2 hn⟩
  · cases e
    obtain ⟨v, rfl, hv⟩ := one hl
    cases hv with
    | lst h0 h1 h2 => exact call_list_of pins s σ H _ us Q I r ⟨_, _, rfl, .inl (.of h1), fun l hn => q.lst h2 hn⟩
  · obtain ⟨ct, e⟩ := guardR_ok e
    cases e
    obtain ⟨v, rfl, hv⟩ := one hl
    cases hv with
    | dT h0 h1 h2 h3 => exact absurd ct Bool.false_ne_true
    | dK h0 h1 h2 h3 => exact call_listD hc pins s σ H _ us Q I r ⟨_, _, rfl, h1, fun p hp => q.lst (by rw [h2]; exact has_keys _) hp⟩
  · cases e
    obtain ⟨v, rfl, hv⟩ := one hl
    cases hv
    exact call_abs pins s σ H _ us Q I r ⟨_, rfl, q.int⟩
  · cases e
    obtain ⟨v, rfl, hv⟩ := one hl
    cases hv
    exact call_int1 pins s σ H _ us Q I r (.inl ⟨_, rfl, q.int⟩)
  · cases e
    obtain ⟨v, rfl, hv⟩ := one hl
    cases hv
    exact call_int1 pins s σ H _ us Q I r (.inr ⟨_, rfl, q.int⟩)
  · obtain ⟨c, e⟩ := guardR_ok e
    cases e
    obtain ⟨v, rfl, hv⟩ := one hl
    cases hv
    exact call_str_int pins s σ H _ us Q I r ⟨_, rfl, of_decide_eq_true c, q.str⟩
  · obtain ⟨bs, e1, e⟩ := bind_ok e
    cases e
    obtain ⟨v, rfl, hv⟩ := one hl
    cases hv with
    | lst h0 h1 h2 =>
      have e2 := has_bls (ofO_ok e1) h2
      subst e2
      exact cr_all hc pins s σ H _ us Q I r ⟨_, _, rfl, .of h1, q.bl⟩
  · obtain ⟨bs, e1, e⟩ := bind_ok e
    cases e
    obtain ⟨v, rfl, hv⟩ := one hl
    cases hv with
    | lst h0 h1 h2 =>
      have e2 := has_bls (ofO_ok e1) h2
      subst e2
      exact cr_any hc pins s σ H _ us Q I r ⟨_, _, rfl, .of h1, q.bl⟩
  · obtain ⟨bs, e1, e⟩ := bind_ok e
    cases e
    obtain ⟨v, rfl, hv⟩ := one hl
    cases hv with
    | lst h0 h1 h2 =>
      have e2 := has_ints (ofO_ok e1) h2
      subst e2
      exact cr_sum hc pins s σ H _ us Q I r ⟨_, _, rfl, .of h1, q.int⟩
  · rename_i x xs
    obtain ⟨c, e⟩ := guardR_ok e
    cases e
    obtain ⟨v, rfl, hv⟩ := one hl
    obtain ⟨c1, c2, c3⟩ := sortOk_ok c
    cases hv with
    | lst h0 h1 h2 =>
      obtain ⟨its, rv, pl, hz⟩ := I.list (.of h1)
      obtain ⟨as, ra⟩ := Dp.readsAll I (toPs (x :: xs)) _ its (by rw [hG]; exact h2.dp c1) rv
      rw [Vals.ref1 r]
      have c2' : PySem.W.AlikeAll (toP x :: toPs xs) := by rw [toPs] at c2; exact c2
      have dl := depthAll_le (n := 60) c3
      rw [toPs] at dl ra
      refine PySem.W.min_list_data (I.ok.hd hc) pl.isList ra c2' (by omega) ?_
      intro i v h' tk bs ev rd k
      rw [← toP_min] at rd
      obtain ⟨y, ry, hy⟩ := best hG I rv h2 c1 (min_mem x xs) ev rd k
      exact ⟨y, H, I.kept k, ry, q.here hy⟩
  · rename_i x xs
    obtain ⟨c, e⟩ := guardR_ok e
    cases e
    obtain ⟨v, rfl, hv⟩ := one hl
    obtain ⟨c1, c2, c3⟩ := sortOk_ok c
    cases hv with
    | tup h1 h2 =>
      obtain ⟨its, rv, pl, hz⟩ := I.tuple (.of h1)
      obtain ⟨as, ra⟩ := Dp.readsAll I (toPs (x :: xs)) _ its (by rw [hG]; exact h2.dp c1) rv
      rw [Vals.ref1 r]
      have c2' : PySem.W.AlikeAll (toP x :: toPs xs) := by rw [toPs] at c2; exact c2
      have dl := depthAll_le (n := 60) c3
      rw [toPs] at dl ra
      refine PySem.W.min_tuple_data (I.ok.hd hc) pl ra c2' (by omega) ?_
      intro i v h' tk bs ev rd k
      rw [← toP_min] at rd
      obtain ⟨y, ry, hy⟩ := best hG I rv h2 c1 (min_mem x xs) ev rd k
      exact ⟨y, H, I.kept k, ry, q.here hy⟩
  · rename_i x xs
    obtain ⟨c, e⟩ := guardR_ok e
    cases e
    obtain ⟨v, rfl, hv⟩ := one hl
    obtain ⟨c1, c2, c3⟩ := sortOk_ok c
    cases hv with
    | lst h0 h1 h2 =>
      obtain ⟨its, rv, pl, hz⟩ := I.list (.of h1)
      obtain ⟨as, ra⟩ := Dp.readsAll I (toPs (x :: xs)) _ its (by rw [hG]; exact h2.dp c1) rv
      rw [Vals.ref1 r]
      have c2' : PySem.W.AlikeAll (toP x :: toPs xs) := by rw [toPs] at c2; exact c2
      have dl := depthAll_le (n := 60) c3
      rw [toPs] at dl ra
      refine PySem.W.max_list_data (I.ok.hd hc) pl.isList ra c2' (by omega) ?_
      intro i v h' tk bs ev rd k
      rw [← toP_max] at rd
      obtain ⟨y, ry, hy⟩ := best hG I rv h2 c1 (max_mem x xs) ev rd k
      exact ⟨y, H, I.kept k, ry, q.here hy⟩
  · rename_i x xs
    obtain ⟨c, e⟩ := guardR_ok e
    cases e
    obtain ⟨v, rfl, hv⟩ := one hl
    obtain ⟨c1, c2, c3⟩ := sortOk_ok c
    cases hv with
    | tup h1 h2 =>
      obtain ⟨its, rv, pl, hz⟩ := I.tuple (.of h1)
      obtain ⟨as, ra⟩ := Dp.readsAll I (toPs (x :: xs)) _ its (by rw [hG]; exact h2.dp c1) rv
      rw [Vals.ref1 r]
      have c2' : PySem.W.AlikeAll (toP x :: toPs xs) := by rw [toPs] at c2; exact c2
      have dl := depthAll_le (n := 60) c3
      rw [toPs] at dl ra
      refine PySem.W.max_tuple_data (I.ok.hd hc) pl ra c2' (by omega) ?_
      intro i v h' tk bs ev rd k
      rw [← toP_max] at rd
      obtain ⟨y, ry, hy⟩ := best hG I rv h2 c1 (max_mem x xs) ev rd k
      exact ⟨y, H, I.kept k, ry, q.here hy⟩
  · cases e
    obtain ⟨v, w, rfl, hv, hw⟩ := two hl
    cases hv
    cases hw
    exact call_min2 hc pins s σ H _ us Q I r ⟨_, _, rfl, q.int⟩
  · cases e
    obtain ⟨v, w, rfl, hv, hw⟩ := two hl
    cases hv
    cases hw
    exact call_max2 hc pins s σ H _ us Q I r ⟨_, _, rfl, q.int⟩
  · rename_i ds
    obtain ⟨c, e⟩ := guardR_ok e
    cases e
    obtain ⟨v, rfl, hv⟩ := one hl
    obtain ⟨c, ct⟩ := bb c
    obtain ⟨c1, c2, c3⟩ := sortOk_ok c
    cases hv with
    | lst h0 h1 h2 =>
      obtain ⟨its, rv, pl, hz⟩ := I.list (.of h1)
      rw [Vals.ref1 r]
      have hn := h2.length
      have e1 : PySem.W.EachIs (fun v d => ∃ x, RelV x v ∧ Has G A H x d) its ds := each_of rv h2 fun v x d r h _ => ⟨x, r, h⟩
      have e2 : PySem.W.EachIs (fun v d => ∃ as, Reads s.heap v (toP d) as) its ds := each_of rv h2 fun v x d r h m => Dp.reads I (toP d) x v (by rw [hG]; exact h.dp (plains_iff c1 d m)) r
      refine PySem.W.sorted_data (R := fun v d => ∃ x, RelV x v ∧ Has G A H x d) (enc := toP) pl.isList e1 e2 (fun d hd d' hd' => c2.1 d (by rw [toPs_map]; exact hd) d' (by rw [toPs_map]; exact hd')) (sortable_ok ct c2) (by omega) (fun b hb => by have := c3 b hb; omega) ?_
      intro out ho eo
      obtain ⟨ys, ry, hy⟩ := of_each eo
      obtain ⟨ep, he'⟩ := PyProof.Rows.sortedAll_at s.heap its out.toArray
      have hyl := hy.length
      rw [List.length_mergeSort] at hyl
      refine ⟨.ref _, upd H (s.heap.objs.size + 1) (.lst ys), I.laid (t' := s.toks) (fun _ _ => PyProof.Rows.sortedAll_old) (Nat.le_succ _) ⟨by omega, out, ep, ry, he'⟩, rfl, q.lst hy (I.hok.fresh (Nat.le_succ _))⟩
  · cases e
end

/-! ### isinstance -/
def isT : IsT → Value
  | .int => .type "int"
  | .bool => .type "bool"
  | .str => .type "str"
  | .tuple => .type "tuple"
  | .list => .type "list"
  | .dict => .type "dict"
def isV : IsT → V
  | .int => .ty "int"
  | .bool => .ty "bool"
  | .str => .ty "str"
  | .tuple => .ty "tuple"
  | .list => .ty "list"
  | .dict => .ty "dict"
theorem isD_exc {x : D} {t : IsT} {e : Xc} (h : isD x t = .exc e) : False := by
  unfold isD at h
  split at h <;> cases h
theorem isi_r {G : Sg} {K : PySem.W.Frag} {A : Addr → Prop} {H : Hp} {x : V} {dx d : D} {t : IsT} (hx : Has G A H x dx) (e : isD dx t = .ok d) : ∃ (b : Bool) (u : Value), d = .bl b ∧ TyX K H x u ∧ PySem.W.kitOne K u (isT t) = some b := by
  cases hx with
  | non => cases t <;> (cases e; exact ⟨_, _, rfl, .base .non, rfl⟩)
  | bl b => cases t <;> (cases e; exact ⟨_, _, rfl, .base (.bl b), rfl⟩)
  | int i => cases t <;> (cases e; exact ⟨_, _, rfl, .base (.int i), rfl⟩)
  | str z => cases t <;> (cases e; exact ⟨_, _, rfl, .base (.str z), rfl⟩)
  | tup h1 h2 => cases t <;> (cases e; exact ⟨_, _, rfl, .base (.tup h1), rfl⟩)
  | lst h0 h1 h2 => cases t <;> (cases e; exact ⟨_, _, rfl, .base (.lst h1), rfl⟩)
  | scr h1 h2 => cases e
  | dK h0 h1 h2 h3 => cases e
  | dT h0 h1 h2 h3 => cases e
  | obj h0 h1 h2 h3 h4 => cases e
  | bok h0 h1 h2 h3 h4 h5 h6 h7 h8 => cases e
def rIsA (G : Sg) (t : IsT) : List V → Hp → VK → Prop := fun vs H Q => ∃ (A : Addr → Prop) (x : V) (dx : D) (b : Bool), vs = [x, isV t] ∧ Has G A H x dx ∧ isD dx t = .ok (.bl b) ∧ Q (.bl b) H
theorem call_isA {G : Sg} {X : Cx} (t : IsT) : CallR X (.builtin "isinstance") (rIsA G t) := by
  intro pins s σ H vs us Q I r h
  obtain ⟨A, x, dx, b, rfl, hx, e, q⟩ := h
  obtain ⟨b', u, e1, e2, e3⟩ := isi_r (K := X.K) hx e
  cases e1
  refine call_isi pins s σ H _ us Q I r ⟨x, isV t, u, isT t, b, rfl, ?_, e2, e3, q⟩
  cases t <;> exact ClsV.ty _

/-! ### subscripts, slices, truth -/
section
variable {G : Sg} {X : Cx}
theorem atI_has {A : Addr → Prop} {H : Hp} {xs : List V} {ds : List D} {i : Int} {d : D} (h : HasL G A H xs ds) (e : atI ds i = some d) : ∃ v, atI xs i = some v ∧ Has G A H v d := by
  unfold atI at e ⊢
  rw [h.length]
  cases n : ixN ds.length i with
  | none => rw [n] at e; cases e
  | some j =>
    rw [n] at e
    exact h.get e
theorem idxD_exc {x y : D} {e : Xc} (h : idxD x y = .exc e) : False := by
  unfold idxD at h
  split at h <;> first
    | exact ofO_exc h
    | cases h
    | exact ofO_exc (guardR_exc h).2
def rIdx (G : Sg) : R2 := fun x y H Q => ∃ (A A' : Addr → Prop) (dx dy d : D), Has G A H x dx ∧ Has G A' H y dy ∧ idxD dx dy = .ok d ∧ ∀ v, Has G A H v d → Q v H
theorem ix_D (hG : X.K = G.K) (hu : X.A.units + 64 < cLine) : IxR X (rIdx G) := by
  intro value slice pins s σ H x y v u Q I rx ry h hs
  obtain ⟨A, A', dx, dy, d, hx, hy, e, q⟩ := h
  unfold idxD at e
  split at e
  · cases hy
    cases hx with
    | tup h1 h2 =>
      obtain ⟨z, e1, e2⟩ := atI_has h2 (ofO_ok e)
      exact ix_seq value slice pins s σ H _ _ v u Q I rx ry (.inr (.inl ⟨_, _, _, z, rfl, rfl, .of h1, e1, q z e2⟩)) hs
  · cases hy
    cases hx with
    | lst h0 h1 h2 =>
      obtain ⟨z, e1, e2⟩ := atI_has h2 (ofO_ok e)
      exact ix_seq value slice pins s σ H _ _ v u Q I rx ry (.inl ⟨_, _, _, z, rfl, rfl, .of h1, e1, q z e2⟩) hs
  · cases hy
    cases hx with
    | scr h1 h2 =>
      obtain ⟨z, e1, e2⟩ := atI_has h2 (ofO_ok e)
      exact ix_seq value slice pins s σ H _ _ v u Q I rx ry (.inl ⟨_, _, _, z, rfl, rfl, h1.sq hG, e1, q z e2⟩) hs
  · obtain ⟨c, e⟩ := guardR_ok e
    have e := ofO_ok e
    have ⟨a, ea⟩ : ∃ a, x = .ref a := by cases hx <;> exact ⟨_, rfl⟩
    subst ea
    cases rx
    rcases dget hx hy c with ⟨q1, q2⟩ | ⟨d', z, q1, q2, q3⟩
    · rw [q1] at e
      cases e
    · rw [q1] at e
      cases e
      exact tail_any (dict_typeIs I q2) PySem.F.slot_dict_getitem.lookup (d_getItem (by omega) I q2 ry fun w' s' I' rw' => ⟨z, H, I', rw', q z q3⟩) hs
  · cases e
/-! slices -/
theorem cut_has {A : Addr → Prop} {H : Hp} {xs : List V} {ds : List D} (h : HasL G A H xs ds) (lo hi : Option Int) : HasL G A H (cutV xs lo hi) (cutL ds lo hi) := by
  unfold cutV cutL
  rw [h.length]
  exact (h.drop _).take _
theorem cut_all {α : Type} (xs : List α) {a b : Nat} (h : a = 0) (h' : b = xs.length) : (xs.drop a).take (b - a) = xs := by
  subst h h'
  simp
def rSlc (G : Sg) : V → Option Int → Option Int → Hp → VK → Prop := fun x lo hi H Q => ∃ (A : Addr → Prop) (dx d : D), Has G A H x dx ∧ slcD dx lo hi = .ok d ∧ Res G A true H d Q
theorem slcD_exc {x : D} {lo hi : Option Int} {e : Xc} (h : slcD x lo hi = .exc e) : False := by
  unfold slcD at h
  have h := (guardR_exc h).2
  split at h <;> cases h
theorem sl_D : SlR X (rSlc G) := by
  intro pins s σ H x v vl vu lo hi sl Q I rx hs pl pu h
  obtain ⟨A, dx, d, hx, e, q⟩ := h
  unfold slcD at e
  obtain ⟨c, e⟩ := guardR_ok e
  split at e
  · rename_i ds e0
    cases e
    cases hx with
    | @tup a xs _ h1 h2 =>
      refine sl_tupA pins s σ H _ v vl vu lo hi sl Q I rx hs pl pu ⟨a, xs, rfl, .of h1, fun z => ?_, fun _ p hp => q.tup (cut_has h2 lo hi) hp⟩
      have e : cutL ds lo hi = ds := by
        unfold cutL
        rw [← h2.length]
        exact cut_all ds z.1 (by rw [← h2.length]; exact z.2)
      rw [e] at q
      exact q.tupH (.tup h1 h2)
  · cases e
    cases hx with
    | lst h0 h1 h2 => exact sl_list pins s σ H _ v vl vu lo hi sl Q I rx hs pl pu ⟨_, _, rfl, .of h1, fun p hp => q.lst (cut_has h2 lo hi) hp⟩
  · cases e
/-! truth -/
def rTru (G : Sg) : V → Hp → (Bool → Hp → Prop) → Prop := fun x H Q => ∃ (A : Addr → Prop) (dx : D) (b : Bool), Has G A H x dx ∧ tru dx = some b ∧ Q b H
theorem emp_len {α β : Type} {xs : List α} {ys : List β} (h : xs.length = ys.length) : xs.isEmpty = ys.isEmpty := by
  cases xs <;> cases ys <;> simp_all
theorem tru_V {A : Addr → Prop} {H : Hp} {x : V} {dx : D} {b : Bool} (hx : Has G A H x dx) (e : tru dx = some b) : TruV X.K x H b ∨ ∃ a kvs, x = .ref a ∧ Rd H a (.dK kvs) ∧ b = !kvs.isEmpty := by
  cases hx with
  | non => cases e; exact .inl rfl
  | bl b => cases e; exact .inl rfl
  | int i => cases e; exact .inl rfl
  | str z =>
    rw [tru] at e
    cases c : decide (z.length ≤ line) with
    | false => rw [c] at e; cases e
    | true =>
      rw [c] at e
      cases e
      refine .inl ⟨by rw [← line_eq]; exact of_decide_eq_true c, ?_⟩
      rw [Bool.eq_iff_iff]
      simp
  | tup h1 h2 =>
    cases e
    exact .inl (.inr (.inl ⟨_, .of h1, by rw [emp_len h2.length]⟩))
  | lst h0 h1 h2 =>
    cases e
    exact .inl (.inl ⟨_, .of h1, by rw [emp_len h2.length]⟩)
  | scr h1 h2 => cases e
  | dK h0 h1 h2 h3 =>
    cases e
    have hn := congrArg List.length h2
    rw [List.length_map, List.length_map] at hn
    exact .inr ⟨_, _, rfl, h1, by rw [emp_len hn]⟩
  | dT h0 h1 h2 h3 => cases e
  | obj h0 h1 h2 h3 h4 => cases e
  | bok h0 h1 h2 h3 h4 h5 h6 h7 h8 => cases e
theorem tru_D : TruR X (rTru G) := by
  intro pins s σ H x v Q I rx h
  obtain ⟨A, dx, b, hx, e, q⟩ := h
  rcases tru_V (X := X) hx e with h | ⟨a, kvs, ea, h, eb⟩
  · exact tru_ok pins s σ H x v Q I rx ⟨b, h, q⟩
  · subst ea eb
    cases rx
    exact d_truth I h fun s' I' => ⟨H, I', q⟩
end
end PD
end

section
set_option Elab.async false
set_option linter.all false
set_option maxRecDepth 100000
set_option maxHeartbeats 4000000
/-! PD, part 6: the names' values. -/
namespace PD
open PySem PySem.Spec PyProof.Rows L2

/-- an exception: its class, its own dict -/
def XR (G : Sg) (H : Hp) : Xc → Value → Option Addr → Prop
  | .mk c args, cls, dx => (c < G.en ∧ cls = .ref (G.ea c)) ∧ frozs args = true ∧ ((args = [] ∧ dx = none) ∨ ∃ v p w, args = [v] ∧ dx = some p ∧ H p = some (.xd [(G.ef c, w)]) ∧ Has G (fun _ => False) H w v)
/-- a field's, a name's value -/
def FldOk (G : Sg) (A P : Addr → Prop) (H : Hp) (v : V) : OF → Prop
  | .sh d => Has G A H v d
  | .ol ds => ∃ p xs, v = .ref p ∧ P p ∧ H p = some (.lst xs) ∧ HasL G A H xs ds
  | .od t ds => ∃ p, v = .ref p ∧ P p ∧ (match t with
    | false => ∃ kvs : List (Key × V), H p = some (.dK kvs) ∧ ds.map Prod.fst = kvs.map (fun p => keyD p.1) ∧ HasL G A H (kvs.map Prod.snd) (ds.map Prod.snd)
    | true => ∃ kvs : List (List Key × V), H p = some (.dT kvs) ∧ ds.map Prod.fst = kvs.map (fun p => .tup (p.1.map keyD)) ∧ HasL G A H (kvs.map Prod.snd) (ds.map Prod.snd))
/-- the error that the suite holds; the instance that is being made -/
structure ExI where
  e : Option (Addr × Value × Option Addr)
  s : Addr × Addr
def SlotOk (G : Sg) (ex : ExI) (A : Addr → Prop) (O : Nat → Addr → Prop) (H : Hp) (v : V) : OD → Prop
  | .f x => FldOk G A (O 0) H v x
  | .oo c fs => ∃ p dx fl, (v = .ref p ∧ (p, dx) = ex.s) ∧ O 0 p ∧ H p = some (.ins (G.ca c) dx fl) ∧ fl.map Prod.fst = (G.cf c).take fs.length ∧ (fl.map Prod.snd).length = fs.length ∧ ∀ (i : Nat) (o : OF) (w : V), fs[i]? = some o → (fl.map Prod.snd)[i]? = some w → FldOk G A (O (i + 1)) H w o
  | .xc x => ∃ a cls d, ex.e = some (a, cls, d) ∧ v = .ref a ∧ XR G H x cls d
abbrev Ow := Nat → Nat → Addr → Prop
/-- H₀: the heap at the entry; A₀: what the arguments stand on -/
structure ER (G : Sg) (ex : ExI) (A₀ : Addr → Prop) (H₀ : Hp) (A : Addr → Prop) (O : Ow) (σ : L2.St) (H : Hp) (ρ : Env) : Prop where
  len : σ.length = ρ.length
  slot : ∀ (j : Nat) (o : OD), ρ[j]? = some (some o) → ∃ v, σ[j]? = some (some v) ∧ SlotOk G ex A (O j) H v o
  own : ∀ j k p, O j k p → ¬ A p ∧ (H p).isSome = true ∧ H₀ p = none
  uniq : ∀ j k j' k' p, O j k p → O j' k' p → j = j' ∧ k = k'
  sub : ∀ q, A q → fr A₀ H₀ q
  same : Same H₀ H

section
variable {G : Sg} {A A' P P' : Addr → Prop} {H H' : Hp}
theorem XR.mono (s : Same H H') : ∀ {x : Xc} {cls : Value} {dx : Option Addr}, XR G H x cls dx → XR G H' x cls dx
  | .mk c args, _, _, ⟨h1, h2, h3⟩ => ⟨h1, h2, by
    rcases h3 with h | ⟨v, p, w, e1, e2, e3, e4⟩
    · exact .inl h
    · exact .inr ⟨v, p, w, e1, e2, s _ _ e3, e4.mono (fun _ z => z) s⟩⟩
theorem Has.to (s : Same H H') (hA : ∀ q, A q → (H q).isSome = true → A' q) {v : V} {d : D} (h : Has G A H v d) : Has G A' H' v d := h.there.mono (fun q z => hA q z.1 z.2) s
theorem HasL.to (s : Same H H') (hA : ∀ q, A q → (H q).isSome = true → A' q) {v : List V} {d : List D} (h : HasL G A H v d) : HasL G A' H' v d := h.there.mono (fun q z => hA q z.1 z.2) s
theorem FldOk.to (s : Same H H') (hA : ∀ q, A q → (H q).isSome = true → A' q) (hP : ∀ q, P q → P' q) {v : V} : ∀ {o : OF}, FldOk G A P H v o → FldOk G A' P' H' v o
  | .sh d, h => Has.to s hA h
  | .ol ds, ⟨p, xs, e, h0, h1, h2⟩ => ⟨p, xs, e, hP _ h0, s _ _ h1, h2.to s hA⟩
  | .od true ds, ⟨p, e, h0, kvs, h1, h2, h3⟩ => ⟨p, e, hP _ h0, kvs, s _ _ h1, h2, h3.to s hA⟩
  | .od false ds, ⟨p, e, h0, kvs, h1, h2, h3⟩ => ⟨p, e, hP _ h0, kvs, s _ _ h1, h2, h3.to s hA⟩
theorem FldOk.has {v : V} : ∀ {o : OF}, FldOk G A P H v o → Has G (fun q => A q ∨ P q) H v o.d
  | .sh d, h => Has.mono (fun _ z => .inl z) (Same.refl H) h
  | .ol ds, ⟨p, xs, e, h0, h1, h2⟩ => by
    subst e
    exact .lst (.inr h0) h1 (h2.mono (fun _ z => .inl z) (Same.refl H))
  | .od true ds, ⟨p, e, h0, kvs, h1, h2, h3⟩ => by
    subst e
    exact .dT (.inr h0) (.inl h1) h2 (h3.mono (fun _ z => .inl z) (Same.refl H))
  | .od false ds, ⟨p, e, h0, kvs, h1, h2, h3⟩ => by
    subst e
    exact .dK (.inr h0) (.inl h1) h2 (h3.mono (fun _ z => .inl z) (Same.refl H))
theorem ne_p {P : Addr → Prop} {p q : Addr} (h : P q) (n : ¬ P p) : q ≠ p := fun e => n (e ▸ h)
theorem FldOk.upd {v : V} {p : Addr} {o' : HO} (mu : Mut (H p)) (nA : ¬ A p) (nP : ¬ P p) : ∀ {o : OF}, FldOk G A P H v o → FldOk G A P (L2.upd H p o') v o
  | .sh d, h => Has.upd mu nA h
  | .ol ds, ⟨q, xs, e, h0, h1, h2⟩ => ⟨q, xs, e, h0, by rw [upd_ne (ne_p h0 nP)]; exact h1, h2.upd mu nA⟩
  | .od true ds, ⟨q, e, h0, kvs, h1, h2, h3⟩ => ⟨q, e, h0, kvs, by rw [upd_ne (ne_p h0 nP)]; exact h1, h2, h3.upd mu nA⟩
  | .od false ds, ⟨q, e, h0, kvs, h1, h2, h3⟩ => ⟨q, e, h0, kvs, by rw [upd_ne (ne_p h0 nP)]; exact h1, h2, h3.upd mu nA⟩
theorem hasL_of {vs : List V} {ds : List D} (hl : vs.length = ds.length) (h : ∀ (i : Nat) (v : V) (d : D), vs[i]? = some v → ds[i]? = some d → Has G A H v d) : HasL G A H vs ds := by
  induction ds generalizing vs with
  | nil =>
    have : vs = [] := List.eq_nil_of_length_eq_zero hl
    subst this
    exact .nil
  | cons d ds ih =>
    cases vs with
    | nil => simp at hl
    | cons v vs => exact .cons (h 0 v d rfl rfl) (ih (by simpa using hl) fun i v d h1 h2 => h (i + 1) v d (by simpa using h1) (by simpa using h2))
variable {ex : ExI} {O O' : Nat → Addr → Prop}
theorem SlotOk.to (s : Same H H') (hA : ∀ q, A q → (H q).isSome = true → A' q) (hP : ∀ k q, O k q → O' k q) {v : V} : ∀ {o : OD}, SlotOk G ex A O H v o → SlotOk G ex A' O' H' v o
  | .f x, h => FldOk.to s hA (hP 0) h
  | .oo c fs, ⟨p, dx, fl, e, h0, h1, h2, h3, h4⟩ => ⟨p, dx, fl, e, hP _ _ h0, s _ _ h1, h2, h3, fun i o w e1 e2 => (h4 i o w e1 e2).to s hA (hP _)⟩
  | .xc x, ⟨a, cls, d, e1, e2, e3⟩ => ⟨a, cls, d, e1, e2, e3.mono s⟩
theorem SlotOk.has {v : V} {d : D} : ∀ {o : OD}, o.d = some d → SlotOk G ex A O H v o → Has G (fun q => A q ∨ ∃ k, O k q) H v d
  | .f x, e, h => by
    cases e
    exact (FldOk.has h).mono (fun q z => z.imp id fun z => ⟨0, z⟩) (Same.refl H)
  | .oo 0 fs, e, _ => by cases e
  | .oo (c + 1) fs, e, ⟨p, dx, fl, e0, h0, h1, h2, h3, h4⟩ => by
    cases e
    rw [e0.1]
    refine .obj (.inr ⟨0, h0⟩) h1 rfl (by rw [h2, List.length_map]) (hasL_of (by rw [h3, List.length_map]) fun i w d e1 e2 => ?_) (Nat.succ_ne_zero c)
    rw [List.getElem?_map, Option.map_eq_some_iff] at e2
    obtain ⟨o, e3, e4⟩ := e2
    subst e4
    exact (h4 i o w e3 e1).has.mono (fun q z => z.imp id fun z => ⟨_, z⟩) (Same.refl H)
theorem SlotOk.un {v : V} : ∀ {o : OD}, SlotOk G ex A O H v o → ∀ o', unown1 (some o) = some o' → SlotOk G ex (fun q => A q ∨ ∃ k, O k q) (fun _ _ => False) H v o'
  | .f x, h, _, e => by cases e; exact SlotOk.has (o := .f x) (ex := ex) (O := O) rfl h
  | .oo 0 fs, h, _, e => by cases e
  | .oo (c + 1) fs, h, _, e => by cases e; exact SlotOk.has (o := .oo (c + 1) fs) rfl h
  | .xc x, ⟨a, cls, d, e1, e2, e3⟩, _, e => by cases e; exact ⟨a, cls, d, e1, e2, e3⟩
end

def ow (O : Ow) (rs : List Nat) (q : Addr) : Prop := ∃ j ∈ rs, ∃ k, O j k q
section
variable {G : Sg} {ex : ExI} {A₀ : Addr → Prop} {H₀ : Hp} {A : Addr → Prop} {O : Ow} {σ : L2.St} {H H' : Hp} {ρ : Env}
theorem ER.move (er : ER G ex A₀ H₀ A O σ H ρ) (s : Same H H') {B : Addr → Prop} (h1 : ∀ q, A q → (H q).isSome = true → B q) (h2 : ∀ q, B q → A q ∨ H q = none) : ER G ex A₀ H₀ B O σ H' ρ where
  len := er.len
  slot := fun j o e => let ⟨v, e1, e2⟩ := er.slot j o e; ⟨v, e1, e2.to s h1 fun _ _ z => z⟩
  own := fun j k p h => by
    obtain ⟨a, b, c⟩ := er.own j k p h
    refine ⟨fun z => ?_, ?_, c⟩
    · rcases h2 p z with z | z
      · exact a z
      · rw [z] at b; cases b
    · obtain ⟨o, e⟩ := Option.isSome_iff_exists.mp b
      rw [s _ _ e]
      rfl
  uniq := er.uniq
  sub := fun q z => by
    rcases h2 q z with z | z
    · exact er.sub q z
    · exact .inr (same_none er.same z)
  same := same_tr er.same s
theorem ER.go (er : ER G ex A₀ H₀ A O σ H ρ) (s : Same H H') : ER G ex A₀ H₀ (fr A H) O σ H' ρ := er.move s (fun _ z _ => .inl z) fun _ z => z
theorem unown_len (ρ : Env) : ∀ rs : List Nat, (unown ρ rs).length = ρ.length
  | [] => rfl
  | i :: is => by
    rw [unown]
    split
    · rw [List.length_set, unown_len ρ is]
    · exact unown_len ρ is
theorem unown1_idem (o : Option OD) : unown1 (unown1 o) = unown1 o := by
  cases o with
  | none => rfl
  | some o => cases o with
    | oo c fs => cases c <;> rfl
    | f x => rfl
    | xc x => rfl
theorem unown_get (ρ : Env) (j : Nat) : ∀ rs : List Nat, (unown ρ rs)[j]? = if j ∈ rs then (ρ[j]?).map unown1 else ρ[j]?
  | [] => by simp [unown]
  | i :: is => by
    rw [unown]
    have ih := unown_get ρ j is
    split
    · rename_i o e
      by_cases h : i = j
      · subst h
        have hl : i < (unown ρ is).length := by rw [unown_len]; exact (List.getElem?_eq_some_iff.mp e).1
        rw [List.getElem?_set_self hl, e]
        simp
      · rw [List.getElem?_set_ne h, ih]
        have hj : j ≠ i := fun z => h z.symm
        by_cases hm : j ∈ is
        · rw [if_pos hm, if_pos (List.mem_cons_of_mem _ hm)]
        · rw [if_neg hm, if_neg (by simp [hm, hj])]
    · rename_i e
      rw [ih]
      by_cases h : i = j
      · subst h
        rw [e]
        simp
      · have hj : j ≠ i := fun z => h z.symm
        by_cases hm : j ∈ is
        · rw [if_pos hm, if_pos (List.mem_cons_of_mem _ hm)]
        · rw [if_neg hm, if_neg (by simp [hm, hj])]
theorem ER.un (er : ER G ex A₀ H₀ A O σ H ρ) (rs : List Nat) : ER G ex A₀ H₀ (fun q => A q ∨ ow O rs q) (fun j k p => O j k p ∧ j ∉ rs) σ H (unown ρ rs) where
  len := by rw [unown_len]; exact er.len
  slot := fun j o e => by
    rw [unown_get] at e
    by_cases hm : j ∈ rs
    · rw [if_pos hm, Option.map_eq_some_iff] at e
      obtain ⟨o1, e1, e2⟩ := e
      cases o1 with
      | none => cases e2
      | some o1 =>
        obtain ⟨v, e3, e4⟩ := er.slot j o1 e1
        have e6 := e4.un _ e2
        exact ⟨v, e3, e6.to (Same.refl H) (fun q z _ => z.imp id fun ⟨k, z⟩ => ⟨j, hm, k, z⟩) fun _ _ z => z.elim⟩
    · rw [if_neg hm] at e
      obtain ⟨v, e3, e4⟩ := er.slot j o e
      exact ⟨v, e3, e4.to (Same.refl H) (fun q z _ => .inl z) fun _ _ z => ⟨z, hm⟩⟩
  own := fun j k p ⟨h, hm⟩ => by
    obtain ⟨a, b, c⟩ := er.own j k p h
    refine ⟨fun z => ?_, b, c⟩
    rcases z with z | ⟨j', hj', k', z⟩
    · exact a z
    · exact hm ((er.uniq _ _ _ _ _ h z).1 ▸ hj')
  uniq := fun j k j' k' p h h' => er.uniq j k j' k' p h.1 h'.1
  sub := fun q z => by
    rcases z with z | ⟨j, _, k, z⟩
    · exact er.sub q z
    · exact .inr (er.own _ _ _ z).2.2
  same := er.same
/-- a slot is set -/
theorem ER.set {i : Nat} {o : OD} {v : V} {Oi : Nat → Addr → Prop} (er : ER G ex A₀ H₀ A O σ H ρ) (hs : SlotOk G ex A Oi H v o) (h1 : ∀ k p, Oi k p → ¬ A p ∧ (H p).isSome = true ∧ H₀ p = none)
    (h2 : ∀ k p j k', Oi k p → j ≠ i → ¬ O j k' p) (h3 : ∀ k k' p, Oi k p → Oi k' p → k = k') : ER G ex A₀ H₀ A (fun j k p => (j = i ∧ Oi k p) ∨ (j ≠ i ∧ O j k p)) (σ.set i (some v)) H (ρ.set i (some o)) where
  len := by rw [List.length_set, List.length_set]; exact er.len
  slot := fun j o' e => by
    by_cases h : i = j
    · subst h
      have hl : i < ρ.length := by
        have z := (List.getElem?_eq_some_iff.mp e).1
        rw [List.length_set] at z
        exact z
      rw [List.getElem?_set_self hl] at e
      cases e
      exact ⟨v, by rw [List.getElem?_set_self (by rw [er.len]; exact hl)], hs.to (Same.refl H) (fun _ z _ => z) fun _ _ z => .inl ⟨rfl, z⟩⟩
    · rw [List.getElem?_set_ne h] at e
      obtain ⟨v', e3, e4⟩ := er.slot j o' e
      exact ⟨v', by rw [List.getElem?_set_ne h]; exact e3, e4.to (Same.refl H) (fun _ z _ => z) fun _ _ z => .inr ⟨fun q => h q.symm, z⟩⟩
  own := fun j k p h => by
    rcases h with ⟨_, h⟩ | ⟨_, h⟩
    · exact h1 k p h
    · exact er.own j k p h
  uniq := fun j k j' k' p h h' => by
    rcases h with ⟨e1, h⟩ | ⟨e1, h⟩ <;> rcases h' with ⟨e2, h'⟩ | ⟨e2, h'⟩
    · exact ⟨e1.trans e2.symm, h3 k k' p h h'⟩
    · exact absurd h' (h2 k p j' k' h e2)
    · exact absurd h (h2 k' p j k h' e1)
    · exact er.uniq _ _ _ _ _ h h'
  sub := er.sub
  same := er.same
theorem ER.setSh {i : Nat} {d : D} {v : V} (er : ER G ex A₀ H₀ A O σ H ρ) (hs : Has G A H v d) : ER G ex A₀ H₀ A (fun j k p => (j = i ∧ False) ∨ (j ≠ i ∧ O j k p)) (σ.set i (some v)) H (ρ.set i (sh d)) :=
  er.set (o := .f (.sh d)) (Oi := fun _ _ => False) hs (fun _ _ z => z.elim) (fun _ _ _ _ z => z.elim) (fun _ _ _ z => z.elim)
/-- a slot is forgotten -/
theorem ER.wipe1 {i : Nat} {σ' : L2.St} (er : ER G ex A₀ H₀ A O σ H ρ) (hl : σ'.length = σ.length) (h : ∀ j v, j ≠ i → σ[j]? = some (some v) → σ'[j]? = some (some v)) : ER G ex A₀ H₀ A O σ' H (ρ.set i none) where
  len := by rw [List.length_set, hl]; exact er.len
  slot := fun j o e => by
    by_cases q : i = j
    · subst q
      have hl : i < ρ.length := by
        have z := (List.getElem?_eq_some_iff.mp e).1
        rw [List.length_set] at z
        exact z
      rw [List.getElem?_set_self hl] at e
      cases e
    · rw [List.getElem?_set_ne q] at e
      obtain ⟨v, e1, e2⟩ := er.slot j o e
      exact ⟨v, h j v (fun z => q z.symm) e1, e2⟩
  own := er.own
  uniq := er.uniq
  sub := er.sub
  same := er.same
theorem wipeE_len (ρ : Env) : ∀ rs : List Nat, (wipeE ρ rs).length = ρ.length
  | [] => rfl
  | i :: is => by rw [wipeE, List.length_set, wipeE_len ρ is]
theorem ER.wipe (er : ER G ex A₀ H₀ A O σ H ρ) : ∀ rs : List Nat, ER G ex A₀ H₀ A O (L2.wipe σ rs) H (wipeE ρ rs)
  | [] => er
  | i :: is => by
    rw [wipeE, L2.wipe]
    exact (er.wipe is).wipe1 (by rw [List.length_set]) fun j v hj e => by rw [List.getElem?_set_ne (fun z => hj z.symm)]; exact e
theorem XR.upd {p : Addr} {o : HO} (mu : Mut (H p)) (nx : ∀ fs, H p ≠ some (.xd fs)) : ∀ {x : Xc} {cls : Value} {dx : Option Addr}, XR G H x cls dx → XR G (L2.upd H p o) x cls dx
  | .mk c args, _, _, ⟨h1, h2, h3⟩ => ⟨h1, h2, by
    rcases h3 with h | ⟨v, q, w, e1, e2, e3, e4⟩
    · exact .inl h
    · exact .inr ⟨v, q, w, e1, e2, by rw [upd_ne (fun z => by subst z; exact nx _ e3)]; exact e3, e4.upd mu (fun z => z)⟩⟩
theorem SlotOk.upd {P : Nat → Addr → Prop} {p : Addr} {o' : HO} (mu : Mut (H p)) (nx : ∀ fs, H p ≠ some (.xd fs)) (nA : ¬ A p) (nP : ∀ k, ¬ P k p) {v : V} : ∀ {o : OD}, SlotOk G ex A P H v o → SlotOk G ex A P (L2.upd H p o') v o
  | .f x, h => FldOk.upd mu nA (nP 0) h
  | .oo c fs, ⟨q, dx, fl, e, h0, h1, h2, h3, h4⟩ => ⟨q, dx, fl, e, h0, by rw [upd_ne (ne_p h0 (nP 0))]; exact h1, h2, h3, fun i o w e1 e2 => (h4 i o w e1 e2).upd mu nA (nP _)⟩
  | .xc x, ⟨a, cls, d, e1, e2, e3⟩ => ⟨a, cls, d, e1, e2, e3.upd mu nx⟩
/-- an object that no name owns is written -/
theorem ER.updF {p : Addr} {o : HO} (er : ER G ex A₀ H₀ A O σ H ρ) (mu : Mut (H p)) (nx : ∀ fs, H p ≠ some (.xd fs)) (nA : ¬ A p) (nO : ∀ j k, ¬ O j k p) (n0 : H₀ p = none) : ER G ex A₀ H₀ A O σ (upd H p o) ρ where
  len := er.len
  slot := fun j o e => let ⟨v, e1, e2⟩ := er.slot j o e; ⟨v, e1, e2.upd mu nx nA (nO j)⟩
  own := fun j k q h => by
    obtain ⟨a, b, c⟩ := er.own j k q h
    refine ⟨a, ?_, c⟩
    rw [upd_ne (ne_p (P := O j k) h (nO j k))]
    exact b
  uniq := er.uniq
  sub := er.sub
  same := fun b x e => by
    rw [upd_ne (fun z => by subst z; rw [n0] at e; cases e)]
    exact er.same b x e
/-- a name is read -/
theorem ER.var {i : Nat} {d : D} (er : ER G ex A₀ H₀ A O σ H ρ) (e : varR ρ i = .ok d) : ∃ v, σ[i]? = some (some v) ∧ Has G (fun q => A q ∨ ow O [i] q) H v d := by
  unfold varR at e
  split at e
  · rename_i o eo
    unfold slotE at eo
    cases er1 : ρ[i]? with
    | none => rw [er1] at eo; cases eo
    | some o1 =>
      rw [er1] at eo
      cases o1 with
      | none => cases eo
      | some o2 =>
        cases eo
        obtain ⟨v, e1, e2⟩ := er.slot i _ er1
        exact ⟨v, e1, (e2.has (ofO_ok e)).mono (fun q z => z.imp id fun ⟨k, z⟩ => ⟨i, by simp, k, z⟩) (Same.refl H)⟩
  · cases e
theorem varR_exc {i : Nat} {x : Xc} (e : varR ρ i = .exc x) : False := by
  unfold varR at e
  split at e
  · exact ofO_exc e
  · cases e
end
end PD
end

section
set_option Elab.async false
set_option linter.all false
set_option maxRecDepth 100000
set_option maxHeartbeats 4000000
/-! PD, part 6b: own errors with an argument; isinstance of a caught one; its field. -/
namespace PD
open PySem PySem.Spec PyProof.Rows L2
/-- the promise of `def __init__(self, x): self.f = x` of an error class at C -/
def oexSp (C : Addr) (f : Str) : Sp := fun vs H Q _ => ∃ (a : Addr) (y : V), vs = [.ref a, y] ∧ H a = some (exo a C none) ∧ ∀ dx, H dx = none → dx ≠ a → Q .non (upd (upd H dx (exd dx [(f, y)])) a (exo a C (some dx)))
section
open PySem.W PySem.Calls
variable {prog : Program} {w : World} {A : Around} {E : Value → Shared → Prop} {s : Shared} {K : PySem.W.Frag} {x D : Addr} {ox : Obj}
theorem findObj_dataO {C : Addr} {od : Option Obj} {name : Str} {a g : Value} (hc : (clsIn K C).isSome = true) (ha : findIn K (.ref C) name = some (some a)) (hg : specialIn K a "__get__" = some (some g)) (ht : takesIn K a = some true) : findObj K C od name = some (.bind g a) := by
  obtain ⟨cd, hc⟩ := Option.isSome_iff_exists.mp hc
  unfold findObj
  rw [hc, Option.bind_some, ha, Option.bind_some]
  simp [hg, ht]
/-- e.__class__, e with or without own fields -/
theorem kin_classO {od : Option Obj} {Q : Option Value → Shared → Prop} (T : ExcC K D) (X : K.In s.heap) (I : InstAt s.heap x ox D od) (h : Q (some (.ref D)) { s with toks := s.toks + 1 }) : wpAny (model prog w) A (getAttr? (.ref x) "__class__") Q E s := by
  obtain ⟨hga, hgt, hsub, hdct, ha, hn, htk, hm⟩ := T
  have hf : findObj K D od "__class__" = some (.bind (.builtin "getset_descriptor.__get__") (.builtin "object.__class__")) := findObj_dataO (by obtain ⟨cd, hc, _⟩ := any_some hdct; rw [hc]; rfl) ha hn htk
  obtain ⟨hp, g, d, t, os⟩ := s
  have L0 := I.type (M := model prog w)
  have L1 := looks_findIn (M := model prog w) X hga
  have L2 := looks_findIn (M := model prog w) X hgt
  have L3 := looks_find (M := model prog w) X I hf
  have sub : Looks (model prog w) hp (isInstance (.ref x) (.type "BaseException")) true := L0.andThen (looks_subIn X hsub)
  have hx0 : (false && onTheHeap (Value.builtin "BaseException.__getattribute__")) = false := rfl
  have hx2 : (Value.builtin "BaseException.__getattribute__" == Value.builtin "object.__getattribute__") = false := by decide +kernel
  have hx1 : (onTheHeap (Value.ref D) && Value.builtin "BaseException.__getattribute__" == Value.builtin "object.__getattribute__") = false := by rw [hx2]; rfl
  unfold getAttr? getAttrBy? getAttrBy
  refine wpAny_bind (wpAny_mkText (wpAny_bind (wpAny_attempt (wpAny_holding (wpAny_bind (L0.at (wpAny_bind (L1.at ?_))))))))
  show wpAny _ _ (if (onTheHeap (Value.ref D) && Value.builtin "BaseException.__getattribute__" == Value.builtin "object.__getattribute__") = true then _ else _) _ _ _
  rw [hx1, if_neg Bool.false_ne_true]
  unfold getAttrByItsOwn hookBefore
  refine wpAny_bind ?_
  rw [if_pos (show onTheHeap (Value.ref D) = true from rfl)]
  refine L2.at ?_
  refine wpAny_bind (wpAny_attempt (wpAny_holding ?_))
  unfold callGetattribute
  rw [hx0, if_neg Bool.false_ne_true]
  unfold boundAndCalled
  rw [PySem.F.excAttr_ValueError.ga.bind (.ref x)]
  refine wpAny_bind (wpAny_pure ?_)
  show wpAny _ _ (call (.builtin "BaseException.__getattribute__") [.ref x, .str "__class__" t]) _ _ _
  refine wpAny_call (codeAny_call_builtin PySem.F.excAttr_ValueError.ga.plain PySem.F.entry_bexc_ga ?_)
  refine @check_slot (model prog w) _ _ ⟨hp, g, d, t + 1, os⟩ "BaseException.__getattribute__" "BaseException" "__getattribute__" (.ref x) [.str "__class__" t] [] _ (by decide +kernel) (by decide +kernel) sub (PySem.F.args_bexc_ga (.ref x) (.str "__class__" t)) ?_
  unfold Builtin.«object.__getattribute__»
  refine wpAny_bind (wpAny_of_eq (a := ((Value.ref x : Value), [Value.str "__class__" t])) (by first | rfl | (simp only [slotArgs]; rfl)) ?_)
  refine wpAny_bind (wpAny_pure (wpAny_bind (L0.at (wpAny_bind (L3.at ?_)))))
  show wpAny _ _ (holding [Value.builtin "object.__class__"] (call (.builtin "getset_descriptor.__get__") [.builtin "object.__class__", .ref x, .ref D]) >>= ret) _ _ _
  refine wpAny_bind (wpAny_holding (wpAny_call (class_get (s := ⟨hp, g, d, t + 1, os⟩) (ox := ox) (od := od) X I hm ?_)))
  refine wpAny_pure ?_
  show wpAny _ _ (handedOut (.ref D)) _ _ _
  rw [handedOut_of (v := .ref D) rfl]
  first
    | exact wpAny_pure (wpAny_pure h)
    | exact wpAny_pure h
    | exact wpAny_pure (wpAny_bind (wpAny_pure (wpAny_pure h)))
theorem kitx_excO {od : Option Obj} (T : ExcC K D) : KitX K (.ref x) (.ref D) (fun h => InstAt h x ox D od) where
  ty := fun _ _ _ I => I.type
  it := fun _ _ X _ => by
    obtain ⟨cdD, hcD, _⟩ := any_some T.hd
    unfold clsIn at hcD
    split at hcD
    · rename_i c' d' cd' sl' ho
      intro A' Q' E' s' k q
      unfold isType loadHead
      exact wpAny_bind (wpAny_loadPart (k _ _ (X _ _ ho)) (wpAny_pure q))
    · cases hcD
  ne := fun h tp dd its n sl X htp => by
    obtain ⟨cdD, hcD, _⟩ := any_some T.hd
    refine Bool.eq_false_iff.mpr fun q => ?_
    have e : D = tp := Value.ref.inj (beq_iff_eq.mp q)
    subst e
    unfold clsIn at hcD
    split at hcD
    · rename_i c' d' cd' sl' ho
      have z := (X _ _ ho).symm.trans htp
      cases z
    · cases hcD
  ca := fun X I k => kin_classO T X I k
end
/-- isinstance(e, c), e the exception that the suite holds, d its own dict -/
def rIsX (K : PySem.W.Frag) (D a : Addr) (d : Option Addr) : List V → Hp → VK → Prop := fun xs H Q => ∃ (c : V) (cv : Value) (b : Bool), xs = [.ref a, c] ∧ (∀ u, RelV c u → u = cv) ∧ PySem.W.kitOne K (.ref D) cv = some b ∧ (d = none ∨ ∃ dd fs, d = some dd ∧ H dd = some (.xd fs)) ∧ Q (.bl b) H
theorem call_isX {X : Cx} {a D : Addr} {d : Option Addr} {oe : Obj} {pn : List (Addr × Obj)} (C : ExcC X.K D) (hz : Zc (.ref D) d oe) (hf : ∃ vs, oe.data = .fields vs) : CallR (X.suite a ((a, oe) :: pn)) (.builtin "isinstance") (rIsX X.K D a d) := by
  intro pins s σ H xs us Q I r h
  obtain ⟨c, cv, b, rfl, hcv, e, hd, q⟩ := h
  cases r with
  | cons rx rr =>
    cases rr with
    | cons rt rr =>
      cases rr
      cases rx
      have ec := hcv _ rt
      subst ec
      obtain ⟨hget, _⟩ := I.pin (a, oe) (List.mem_append.mpr (.inl List.mem_cons_self))
      obtain ⟨vs, hv⟩ := hf
      have J : ∃ od, PySem.W.InstAt s.heap a oe D od := by
        rcases hd with rfl | ⟨dd, fs, rfl, ea⟩
        · obtain ⟨oc, od, oda, osl⟩ := oe
          obtain ⟨h1, h2⟩ := hz
          dsimp only at h1 h2 hv
          subst h1 h2 hv
          exact ⟨none, hget, rfl, rfl, trivial⟩
        · have hx : ObjOk X.prog X.w H s.heap dd (.xd fs) := I.hok dd _ ea
          obtain ⟨mA, hns, hr⟩ := hx
          obtain ⟨od, ho, hl⟩ := lookIn_ns hns
          exact ⟨some od, hget, hz.1, by unfold PySem.W.notCls; rw [hv] <;> rfl, by rw [hz.2]; exact ho⟩
      obtain ⟨od, J⟩ := J
      exact PySem.W.kia_one (kitx_excO C) I.kIn J e (fun z => nomatch z) fun tk => ⟨.bl b, H, I.kept (t' := tk) fun _ _ z => z, rfl, q⟩
section
variable {CX : CXT} {P : Program} {w : World} {K : PySem.W.Frag} {mg : Str → Option Value} {base : Heap} {nm q : Str} {pa : Arguments} {scope : Scope} {fa C : Addr} {fd : FuncData} {f y x : Str} {p1 p2 p3 pos : Pos} {k : Nat}
/-- the heap behind it -/
theorem mk_heap {H1 : Hp} {a dx : Addr} {u0 u1 u2 : HO} {xd : HO} (ha : H1 a = none) (hne : dx ≠ a) : upd (del (upd (upd (upd H1 a u0) dx u2) a u1) a) dx xd = upd H1 dx xd := by
  funext b
  by_cases e : b = dx
  · subst e
    rw [upd_same, upd_same]
  · rw [upd_ne e, upd_ne e]
    by_cases e2 : b = a
    · subst e2
      rw [del_same, ha]
    · rw [del_ne e2, upd_ne e2, upd_ne e, upd_ne e2]
theorem mk_sp {H1 : Hp} {a : Addr} {y : V} {Q : XK} {E : XK} (ha : H1 a = none) (h : ∀ dx, H1 dx = none → dx ≠ a → Q (.ref C) (some dx) (upd H1 dx (.xd [(f, y)]))) :
    oexSp C f (.ref a :: ([y] ++ [])) (upd H1 a (exo a C none)) (fun v H2 => v = .non ∧ ∃ (d : Addr) (fs : List (Str × V)), H2 a = some (exo a C (some d)) ∧ H2 d = some (exd d fs) ∧ H1 d = none ∧ Q (.ref C) (some d) (upd (del H2 a) d (.xd fs))) E :=
  ⟨a, y, rfl, upd_same, fun dx hd hne => ⟨rfl, dx, [(f, y)], upd_same, by rw [upd_ne hne, upd_same], by rw [upd_ne hne] at hd; exact hd, by
    rw [mk_heap ha hne]
    exact h dx (by rw [upd_ne hne] at hd; exact hd) hne⟩⟩
end
end PD
end

section
set_option Elab.async false
set_option linter.all false
set_option maxRecDepth 100000
set_option maxHeartbeats 4000000
/-! PD, part 7: expressions, one by one. -/
namespace PD
open PySem PySem.Spec PyProof.Rows L2

/-- what a text's names are -/
structure Sx where
  N : List Str
  fname : List (Option Str)
  cname : List Str
  ename : List Str
  gInts : List (Str × Int)
  gStrs : List (Str × Str)
  free : List Str
  cf : List (List Str)
  ini : List (Option Nat)
  /-- so many errors have no __init__ of their own; the field of each other one -/
  nx : Nat
  ef : List Str
  /-- defs that raise nothing, to be called anywhere -/
  quiet : List Nat

/-- a def's promise -/
def fnSp (G : Sg) (F : List D → R D) : Sp := fun vs H Q E => ∃ (A : Addr → Prop) (ds : List D), HasL G A H vs ds ∧ (match F ds with
  | .ok d => ∀ v H', Same H H' → Has G (fr A H) H' v d → Q v H'
  | .exc x => ∀ cls dx H', Same H H' → XR G H' x cls dx → E cls dx H'
  | .stk => False)
/-- an __init__'s -/
def mkSp (G : Sg) (c : Nat) (F : List D → R D) : Sp := fun vs H Q E => ∃ (A : Addr → Prop) (ds : List D) (x dx : Addr) (ws : List V) (H₁ : Hp), vs = .ref x :: ws ∧ H₁ x = none ∧ H₁ dx = none ∧ dx ≠ x ∧ H = upd (upd H₁ dx (.own x)) x (.ins (G.ca c) dx []) ∧ HasL G A H₁ ws ds ∧ (match F ds with
  | .ok d => ∀ H', Same H₁ H' → Has G (fr A H₁) H' (.ref x) d → Q .non H'
  | .exc e => ∀ cls dx H', Same H₁ H' → XR G H' e cls dx → E cls dx H'
  | .stk => False)

/-- a place in the text: its names' scope; whose cells are its own; cm: not in an except suite -/
structure Lo where
  sc : Scope
  fn : Str → Bool
  cm : Bool
/-- where code runs; W: what is wanted of an exception -/
structure PX (G : Sg) (S : Sx) (T : Tab) (X : Cx) (L : Lo) (W : WX) (ex : ExI) : Prop where
  hG : X.K = G.K
  calm : L.cm = true → X.calm = true
  fnE : X.fn = L.fn
  un : X.A.units + 64 < cLine
  nm : X.N = S.N
  nd : S.N.Nodup
  esc : X.env.scope = L.sc
  tk : Takes X W
  fns : L.cm = true → ∀ f x, S.fname[f]? = some (some x) → ∃ fa fd ps k, FnOk X.prog X.w X.K X.mg X.base (L2.CX X.prog X.w) k fa fd ps (fnSp G (T.fn f)) ∧ Room k X.A ∧ X.mg x = some (.ref fa) ∧ PySem.W.keepIn X.K (.ref fa) = true ∧ Binds X.K fd ps []
  mks : L.cm = true → ∀ c x f, S.cname[c]? = some x → T.init f = some c → ∃ fI fd ps k, Mk X.K (G.ca c) fI ∧ FnOk X.prog X.w X.K X.mg X.base (L2.CX X.prog X.w) k fI fd ps (mkSp G c (T.fn f)) ∧ Room (k + 1) X.A ∧ X.mg x = some (.ref (G.ca c)) ∧ Binds X.K fd ps []
  gi : ∀ p ∈ S.gInts, ∃ t, X.mg p.1 = some (.int p.2 t)
  gs : ∀ p ∈ S.gStrs, ∃ t, X.mg p.1 = some (.str p.2 t)
  free : ∀ x ∈ S.free, X.mg x = none
  cls : ∀ c f, f ∈ G.cf c → Cls X.K (G.ca c) ∧ NoAttr X.K (G.ca c) f
  cfS : ∀ c, G.cf c = (S.cf[c]?).getD []
  cfN : ∀ c, (G.cf c).Nodup
  exn : ∀ c x, S.ename[c]? = some x → X.mg x = some (.ref (G.ea c)) ∧ (c < S.nx → PySem.W.excIn X.K (G.ea c) He.veBase "ValueError.__new__" = true ∧ PySem.W.keepIn X.K (.ref (G.ea c)) = true ∧ PySem.W.subIn X.K (.ref (G.ea c)) (.type "BaseException") = some true ∧ PySem.W.typeIn X.K (.ref (G.ea c)) = some (.type "type"))
  efS : ∀ c f, S.ef[c]? = some f → G.ef c = f
  xin : L.cm = true → ∀ c, c < S.ename.length → S.nx ≤ c → ∃ fI fd ps k, OexC X.K (G.ea c) ∧ PySem.W.findIn X.K (.ref (G.ea c)) "__init__" = some (some (.ref fI)) ∧ PySem.W.typeIn X.K (.ref fI) = some (.type "function") ∧ FnOk X.prog X.w X.K X.mg X.base (L2.CX X.prog X.w) k fI fd ps (oexSp (G.ea c) (G.ef c)) ∧ Room (k + 1) X.A ∧ Binds X.K fd ps []
  enE : S.ename.length = G.en
  ini : ∀ f c, S.ini[f]? = some (some c) → T.init f = some c
  kit : ∀ k c, k < S.ename.length → c < S.ename.length → PySem.W.kitOne X.K (.ref (G.ea k)) (.ref (G.ea c)) = some (T.sub k c)
  kitV : ∀ k, k < S.ename.length → PySem.W.kitOne X.K (.ref (G.ea k)) (.type "ValueError") = some (T.sub k 1000)
  isx : L.cm = false → ∀ a cls d, ex.e = some (a, cls, d) → ∀ k, cls = .ref (G.ea k) → k < S.ename.length → CallR X (.builtin "isinstance") (rIsX X.K (G.ea k) a d)
  xfx : L.cm = false → ∀ a cls d, ex.e = some (a, cls, d) → ∀ k, cls = .ref (G.ea k) → S.nx ≤ k → k < S.ename.length → ∀ (x : Str) (p pos : Pos) (te : TE), PE X (.Name x p) te → PE X (.Attribute (.Name x p) (G.ef k) pos) (tXf a cls d (G.ea k) (G.ef k) te)
  qf : ∀ f x, f ∈ S.quiet → S.fname[f]? = some (some x) → ∃ fa fd ps k, FnP X.prog X.w X.K X.mg X.base k fa fd ps (fnSp G fun ds => noExc (T.fn f ds)) ∧ L2H.RoomH k X.A ∧ X.mg x = some (.ref fa) ∧ PySem.W.keepIn X.K (.ref fa) = true ∧ Binds X.K fd ps []
  pin : L.cm = false → ∃ z, z ∈ X.pn
  exm : ∀ k c, k < S.ename.length → c < S.ename.length → PySem.W.exmOne X.K (.ref (G.ea k)) (.ref (G.ea c)) = some (T.sub k c)

/-- what comes of it -/
def outD (G : Sg) (W : WX) (A : Addr → Prop) (σ : L2.St) (f : Bool) (H : Hp) (r : R D) (Q : VK) : Prop := match r with
  | .ok d => Res G A f H d Q
  | .exc x => ∀ cls dx H', Same H H' → XR G H' x cls dx → W cls dx σ H'
  | .stk => False
def outB (G : Sg) (W : WX) (σ : L2.St) (H : Hp) (r : R Bool) (Q : Bool → Hp → Prop) : Prop := match r with
  | .ok b => ∀ H', Same H H' → Q b H'
  | .exc x => ∀ cls dx H', Same H H' → XR G H' x cls dx → W cls dx σ H'
  | .stk => False
def outL (G : Sg) (W : WX) (A : Addr → Prop) (σ : L2.St) (H : Hp) (r : R (List D)) (Q : List V → Hp → Prop) : Prop := match r with
  | .ok ds => ∀ vs H', Same H H' → HasL G (fr A H) H' vs ds → Q vs H'
  | .exc x => ∀ cls dx H', Same H H' → XR G H' x cls dx → W cls dx σ H'
  | .stk => False
abbrev wi (A : Addr → Prop) (O : Ow) (rs : List Nat) : Addr → Prop := fun q => A q ∨ ow O rs q
section
variable (G : Sg) (T : Tab) (W : WX) (ex : ExI) (A₀ : Addr → Prop) (H₀ : Hp)
/-- an expression's reading; a test's; an argument list's -/
def tD (i : Ex) : TE := fun σ H Q => ∃ A O ρ, ER G ex A₀ H₀ A O σ H ρ ∧ outD G W (wi A O (roots i)) σ (frs i) H (ev T i ρ) Q
def tDB (i : Ex) : TT := fun σ H Q => ∃ A O ρ, ER G ex A₀ H₀ A O σ H ρ ∧ outB G W σ H ((ev T i ρ).bind truR) Q
def tDs (es : Exs) : TA := fun σ H Q => ∃ A O ρ, ER G ex A₀ H₀ A O σ H ρ ∧ outL G W (wi A O (rootsS es)) σ H (evs T es ρ) Q
end
section
variable {G : Sg} {S : Sx} {T : Tab} {X : Cx} {L : Lo} {W : WX} {ex : ExI} {A₀ : Addr → Prop} {H₀ : Hp}
theorem PE.of {e : Expr} {t t' : TE} (h : PE X e t) (w : ∀ σ H Q, t' σ H Q → t σ H Q) : PE X e t' := ⟨fun pins s σ H Q I q => h.run pins s σ H Q I (w σ H Q q)⟩
theorem PT.of {e : Expr} {t t' : TT} (h : PT X e t) (w : ∀ σ H Q, t' σ H Q → t σ H Q) : PT X e t' := ⟨fun pins s σ H Q I q => h.run pins s σ H Q I (w σ H Q q)⟩
theorem PW.of {e : Expr} {t t' : TT} (h : PW X e t) (w : ∀ σ H Q, t' σ H Q → t σ H Q) : PW X e t' := ⟨fun wh pins s σ H Q I q => h.run wh pins s σ H Q I (w σ H Q q)⟩
theorem PA.of {e : List Expr} {t t' : TA} (h : PA X e t) (w : ∀ σ H Q, t' σ H Q → t σ H Q) : PA X e t' := ⟨fun pos pins s σ H Q I q => h.run pos pins s σ H Q I (w σ H Q q)⟩
theorem outD_exc {A A' : Addr → Prop} {σ : L2.St} {f f' : Bool} {H H' : Hp} {x : Xc} {Q Q' : VK} (s : Same H H') (h : outD G W A σ f H (.exc x) Q) : outD G W A' σ f' H' (.exc x) Q' := fun cls dx H2 s2 r => h cls dx H2 (same_tr s s2) r
theorem outD_up {A A' : Addr → Prop} {σ : L2.St} {f : Bool} {H H' : Hp} {r : R D} {Q : VK} (s : Same H H') (hA : ∀ q, A' q → fr A H q) (h : outD G W A σ f H r Q) : outD G W A' σ f H' r Q := by
  cases r with
  | ok d => exact Res.up s hA h
  | exc x => exact outD_exc s h
  | stk => exact h
theorem fr_wi {A : Addr → Prop} {O : Ow} {rs rs' : List Nat} {H : Hp} (h : ∀ j ∈ rs, j ∈ rs') {q : Addr} (z : fr (wi A O rs) H q) : fr (wi A O rs') H q := z.imp (fun z => z.imp id fun ⟨j, hj, k, z⟩ => ⟨j, h j hj, k, z⟩) id
theorem fr_fr {A B : Addr → Prop} {H H' : Hp} (s : Same H H') (h : ∀ q, B q → fr A H q) {q : Addr} (z : fr B H' q) : fr A H q := fr_up s h z
/-- one value, then the rest -/
theorem seq1 {a : Ex} {A : Addr → Prop} {O : Ow} {σ : L2.St} {H : Hp} {ρ : Env} {f : Bool} {g : D → R D} {B : Addr → Prop} {Q : VK} {R : V → Hp → Prop} (er : ER G ex A₀ H₀ A O σ H ρ) (h : outD G W B σ f H ((ev T a ρ).bind g) Q)
    (k : ∀ x v H1, ev T a ρ = .ok x → Same H H1 → Has G (fr (wi A O (roots a)) H) H1 v x → ER G ex A₀ H₀ (fr A H) O σ H1 ρ → outD G W (fr B H) σ f H1 (g x) Q → R v H1) : tD G T W ex A₀ H₀ a σ H R := by
  refine ⟨A, O, ρ, er, ?_⟩
  cases e : ev T a ρ with
  | stk => rw [e] at h; exact h
  | exc x => rw [e] at h; exact outD_exc (Same.refl H) h
  | ok x =>
    rw [e] at h
    exact fun v H1 s1 hv _ => k x v H1 e s1 hv (er.go s1) (outD_up s1 (fun _ z => z) h)
theorem seq2 {a b : Ex} {A : Addr → Prop} {O : Ow} {σ : L2.St} {H : Hp} {ρ : Env} {f : Bool} {g : D → D → R D} {B : Addr → Prop} {Q : VK} {R : V → V → Hp → Prop} (er : ER G ex A₀ H₀ A O σ H ρ)
    (h : outD G W B σ f H ((ev T a ρ).bind fun x => (ev T b ρ).bind fun y => g x y) Q)
    (k : ∀ x y v w H2, ev T a ρ = .ok x → ev T b ρ = .ok y → Same H H2 → Has G (fr (wi A O (roots a ++ roots b)) H) H2 v x → Has G (fr (wi A O (roots a ++ roots b)) H) H2 w y → ER G ex A₀ H₀ (fr A H) O σ H2 ρ → outD G W (fr B H) σ f H2 (g x y) Q → R v w H2) :
    tD G T W ex A₀ H₀ a σ H fun v H1 => tD G T W ex A₀ H₀ b σ H1 fun w H2 => R v w H2 := by
  refine seq1 er h fun x v H1 e1 s1 hv er1 h1 => ?_
  refine seq1 er1 h1 fun y w H2 e2 s2 hw er2 h2 => ?_
  have s := same_tr s1 s2
  refine k x y v w H2 e1 e2 s (hv.mono (fun q z => fr_wi (fun j hj => List.mem_append_left _ hj) z) s2) (hw.mono (fun q z => ?_) (Same.refl H2)) (er.go s) (outD_up (Same.refl H2) (fun q z => ?_) h2)
  · refine fr_wi (fun j hj => List.mem_append_right _ hj) (fr_fr s1 (B := wi (fr A H) O (roots b)) (fun q z => ?_) z)
    rcases z with z | z
    · exact z.imp (fun z => .inl z) id
    · exact .inl (.inr z)
  · exact .inl (.inl z)

/-! ### leaves -/
theorem outD_ok {A : Addr → Prop} {σ : L2.St} {f : Bool} {H : Hp} {d : D} {Q : VK} (h : outD G W A σ f H (.ok d) Q) : Res G A f H d Q := h
theorem se_var {i : Nat} {x : Str} {pos : Pos} (hN : X.N[i]? = some x) (hv : Vis X.env.scope x) (hd : (x == ("__debug__" : Str)) = false) (hcd : (x == ("__classdict__" : Str)) = false) : PE X (.Name x pos) (tD G T W ex A₀ H₀ (.var i)) := by
  refine PE.of (pe_var hN hv hd hcd) fun σ H Q ⟨A, O, ρ, er, h⟩ => ?_
  rw [ev] at h
  cases e : varR ρ i with
  | stk => rw [e] at h; exact h.elim
  | exc x => exact (varR_exc e).elim
  | ok d =>
    rw [e] at h
    obtain ⟨v, e1, e2⟩ := er.var e
    exact ⟨v, e1, Res.here h e2⟩
theorem se_int {i : Int} {j : Nat} {pos : Pos} : PE X (.Constant (.int i) j pos) (tD G T W ex A₀ H₀ (.cI i)) := PE.of pe_int fun σ H Q ⟨A, O, ρ, er, h⟩ => Res.int (by rw [ev] at h; exact h)
theorem se_bl {b : Bool} {j : Nat} {pos : Pos} : PE X (.Constant (.bool b) j pos) (tD G T W ex A₀ H₀ (.cB b)) := PE.of pe_bl fun σ H Q ⟨A, O, ρ, er, h⟩ => Res.bl (by rw [ev] at h; exact h)
theorem se_non {j : Nat} {pos : Pos} : PE X (.Constant .none j pos) (tD G T W ex A₀ H₀ .cN) := PE.of pe_non fun σ H Q ⟨A, O, ρ, er, h⟩ => Res.non (by rw [ev] at h; exact h)
theorem se_str {s : Str} {j : Nat} {pos : Pos} : PE X (.Constant (.str s) j pos) (tD G T W ex A₀ H₀ (.cS s)) := PE.of pe_str fun σ H Q ⟨A, O, ρ, er, h⟩ => Res.str (by rw [ev] at h; exact h)
theorem se_gI {x : Str} {i : Int} {t : Tok} {pos : Pos} (hg : Gl X x) (hm : X.mg x = some (.int i t)) (hd : (x == ("__debug__" : Str)) = false) : PE X (.Name x pos) (tD G T W ex A₀ H₀ (.gI x i)) :=
  PE.of (pe_glob (v := .int i) hg hm ⟨t, rfl⟩ hd) fun σ H Q ⟨A, O, ρ, er, h⟩ => Res.int (by rw [ev] at h; exact h)
theorem se_gS {x : Str} {i : Str} {t : Tok} {pos : Pos} (hg : Gl X x) (hm : X.mg x = some (.str i t)) (hd : (x == ("__debug__" : Str)) = false) : PE X (.Name x pos) (tD G T W ex A₀ H₀ (.gS x i)) :=
  PE.of (pe_glob (v := .str i) hg hm ⟨t, rfl⟩ hd) fun σ H Q ⟨A, O, ρ, er, h⟩ => Res.str (by rw [ev] at h; exact h)
/-! ### operators -/
theorem binD_exc {o : BinO} {x y : D} {e : Xc} (h : binD o x y = .exc e) : False := by
  unfold binD at h
  split at h <;> first
    | cases h
    | (have h := (guardR_exc h).2; cases h)
theorem se_bin {o : BinO} {a b : Ex} {ea eb : Expr} {pos : Pos} (P : PX G S T X L W ex) (ha : PE X ea (tD G T W ex A₀ H₀ a)) (hb : PE X eb (tD G T W ex A₀ H₀ b)) : PE X (.BinOp ea (opOf o) eb pos) (tD G T W ex A₀ H₀ (.bin o a b)) := by
  refine PE.of (pe_op (op_bin P.hG o) ha hb) fun σ H Q ⟨A, O, ρ, er, h⟩ => ?_
  rw [ev] at h
  refine seq2 er h fun x y v w H2 _ _ s hv hw er2 h2 => ?_
  cases e : binD o x y with
  | stk => rw [e] at h2; exact h2.elim
  | exc z => exact (binD_exc e).elim
  | ok d =>
    rw [e] at h2
    exact ⟨_, x, y, d, hv, hw, e, Res.tr h2⟩
theorem asInt_exc {x : D} {e : Xc} (h : asInt x = .exc e) : False := by
  unfold asInt at h
  split at h <;> cases h
theorem se_neg {a : Ex} {ea : Expr} {pos : Pos} (ha : PE X ea (tD G T W ex A₀ H₀ a)) : PE X (.UnaryOp .USub ea pos) (tD G T W ex A₀ H₀ (.neg a)) := by
  refine PE.of (pe_un un_neg ha) fun σ H Q ⟨A, O, ρ, er, h⟩ => ?_
  rw [ev] at h
  refine seq1 er h fun x v H1 _ s hv er1 h1 => ?_
  cases hv with
  | int i => exact ⟨i, rfl, Res.int h1⟩
  | _ => exact h1.elim
/-- a comparison's reading -/
theorem cmp_step {o : CmpO} {a b : Ex} {A : Addr → Prop} {O : Ow} {σ : L2.St} {H : Hp} {ρ : Env} {f : Bool} {B : Addr → Prop} {Q : VK} (er : ER G ex A₀ H₀ A O σ H ρ) (h : outD G W B σ f H ((ev T a ρ).bind fun x => (ev T b ρ).bind fun y => cmpD o x y) Q) :
    tOp (rCmp G o) (tD G T W ex A₀ H₀ a) (tD G T W ex A₀ H₀ b) σ H Q := by
  refine seq2 er h fun x y v w H2 _ _ s hv hw er2 h2 => ?_
  cases e : cmpD o x y with
  | stk => rw [e] at h2; exact h2.elim
  | exc z => exact (cmpD_exc e).elim
  | ok d =>
    rw [e] at h2
    obtain ⟨b, rfl⟩ := cmpD_bl e
    exact ⟨_, x, y, b, hv, hw, e, Res.bl h2⟩
theorem se_cmp {o : CmpO} {a b : Ex} {ea eb : Expr} {pos : Pos} (P : PX G S T X L W ex) (ha : PE X ea (tD G T W ex A₀ H₀ a)) (hb : PE X eb (tD G T W ex A₀ H₀ b)) (hm : behindInMarks (cOp o) eb = false) : PE X (.Compare ea [cOp o] [eb] pos) (tD G T W ex A₀ H₀ (.cmp o a b)) := by
  refine PE.of (pe_cmpR (op_cmp P.hG P.un o) ha hb hm) fun σ H Q ⟨A, O, ρ, er, h⟩ => ?_
  rw [ev] at h
  exact cmp_step er h
/-- a test's outcome, from the value's -/
theorem out_test {A : Addr → Prop} {σ : L2.St} {H : Hp} {r : R D} {Q : Bool → Hp → Prop} (hb : ∀ d, r = .ok d → ∃ b, d = .bl b) (h : outB G W σ H (r.bind truR) Q) : outD G W A σ false H r fun x H' => ∃ k, x = .bl k ∧ Q k H' := by
  cases r with
  | stk => exact h
  | exc x => exact h
  | ok d =>
    obtain ⟨b, rfl⟩ := hb d rfl
    intro v H' s hv _
    cases hv
    exact ⟨b, rfl, h H' s⟩
theorem out_testR {A : Addr → Prop} {σ : L2.St} {H : Hp} {r : R D} {Q : Bool → Hp → Prop} (h : outB G W σ H (r.bind truR) Q) : outD G W A σ false H r fun x H' => rTru G x H' Q := by
  cases r with
  | stk => exact h
  | exc x => exact h
  | ok d =>
    intro v H' s hv _
    have h : outB G W σ H (truR d) Q := h
    unfold truR at h
    cases e : tru d with
    | none => rw [e] at h; exact h.elim
    | some b =>
      rw [e] at h
      exact ⟨_, d, b, hv, e, h H' s⟩
/-- any expression whose test is its value's truth -/
theorem st_val {i : Ex} {e : Expr} (ha : PE X e (tD G T W ex A₀ H₀ i)) (he : ∀ whole, isTrue e X.env whole = (do let v ← whole; standAt e.pos; holding [v] (truthy v))) : PT X e (tDB G T W ex A₀ H₀ i) := by
  refine PT.of (pt_truthR ha (tru_D (G := G)) he) fun σ H Q ⟨A, O, ρ, er, h⟩ => ?_
  exact ⟨A, O, ρ, er, (match hr : ev T i ρ, h with
    | .stk, h => h
    | .exc x, h => h
    | .ok d, h => fun v H' s hv o => out_testR (A := wi A O (roots i)) (r := .ok d) h v H' s hv (fun z => absurd z Bool.false_ne_true))⟩
end
end PD
end

section
set_option Elab.async false
set_option linter.all false
set_option maxRecDepth 100000
set_option maxHeartbeats 4000000
/-! PD, part 8: expressions: tests, displays, subscripts, fields. -/
namespace PD
open PySem PySem.Spec PyProof.Rows L2
section
variable {G : Sg} {S : Sx} {T : Tab} {X : Cx} {L : Lo} {W : WX} {ex : ExI} {A₀ : Addr → Prop} {H₀ : Hp}

/-! ### tests -/
theorem outD_imp {A : Addr → Prop} {σ : L2.St} {f f' : Bool} {H : Hp} {r : R D} {Q Q' : VK} (hf : f = true → f' = true) (h : outD G W A σ f H r Q) (hq : ∀ v H', Q v H' → Q' v H') : outD G W A σ f' H r Q' := by
  cases r with
  | stk => exact h
  | exc x => exact h
  | ok d => exact fun v H' s hv o => hq v H' (h v H' s hv fun e => o (hf e))
theorem test_cmp {A : Addr → Prop} {σ : L2.St} {H : Hp} {r : R D} {Q : Bool → Hp → Prop} (hb : ∀ d, r = .ok d → ∃ b, d = .bl b) (h : outB G W σ H (r.bind truR) Q) : outD G W A σ true H r fun x H' => ∃ k, x = .bl k ∧ Q k H' :=
  outD_imp (fun e => absurd e Bool.false_ne_true) (out_test hb h) fun _ _ q => q
theorem bind2_bl {a b : Ex} {o : CmpO} {ρ : Env} {d : D} (h : ((ev T a ρ).bind fun x => (ev T b ρ).bind fun y => cmpD o x y) = .ok d) : ∃ k, d = .bl k := by
  obtain ⟨x, _, h⟩ := bind_ok h
  obtain ⟨y, _, h⟩ := bind_ok h
  exact cmpD_bl h
theorem st_cmp {o : CmpO} {a b : Ex} {ea eb : Expr} {pos : Pos} (P : PX G S T X L W ex) (ha : PE X ea (tD G T W ex A₀ H₀ a)) (hb : PE X eb (tD G T W ex A₀ H₀ b)) (hm : behindInMarks (cOp o) eb = false) : PT X (.Compare ea [cOp o] [eb] pos) (tDB G T W ex A₀ H₀ (.cmp o a b)) := by
  refine PT.of (pt_cmpR (op_cmp P.hG P.un o) ha hb hm) fun σ H Q ⟨A, O, ρ, er, h⟩ => ?_
  rw [ev] at h
  exact cmp_step er (test_cmp (A := A) (fun d e => bind2_bl e) h)
/-! chains -/
def chainR (T : Tab) (o o' : CmpO) (a b c : Ex) (ρ : Env) : R D := (ev T a ρ).bind fun x => (ev T b ρ).bind fun y => (cmpD o x y).bind fun r => match r with
    | .bl true => (ev T c ρ).bind fun z => cmpD o' y z
    | .bl false => .ok (.bl false)
    | _ => .stk
theorem chain_bl {o o' : CmpO} {a b c : Ex} {ρ : Env} {d : D} (h : chainR T o o' a b c ρ = .ok d) : ∃ k, d = .bl k := by
  obtain ⟨x, _, h⟩ := bind_ok h
  obtain ⟨y, _, h⟩ := bind_ok h
  obtain ⟨r, e, h⟩ := bind_ok h
  obtain ⟨b, rfl⟩ := cmpD_bl e
  cases b with
  | false => exact ⟨false, (ok_inj h).symm⟩
  | true =>
    obtain ⟨z, _, h⟩ := bind_ok h
    exact cmpD_bl h
theorem chain_step {o o' : CmpO} {a b c : Ex} {A : Addr → Prop} {O : Ow} {σ : L2.St} {H : Hp} {ρ : Env} {f : Bool} {B : Addr → Prop} {Q : VK} (er : ER G ex A₀ H₀ A O σ H ρ) (h : outD G W B σ f H (chainR T o o' a b c ρ) Q) :
    tChain (rCmp G o) (rCmp G o') (tD G T W ex A₀ H₀ a) (tD G T W ex A₀ H₀ b) (tD G T W ex A₀ H₀ c) σ H Q := by
  refine seq2 er h fun x y v w H2 _ _ s hv hw er2 h2 => ?_
  cases e : cmpD o x y with
  | stk => rw [e] at h2; exact h2.elim
  | exc z => exact (cmpD_exc e).elim
  | ok d =>
    rw [e] at h2
    obtain ⟨b', rfl⟩ := cmpD_bl e
    refine ⟨_, x, y, b', hv, hw, e, b', rfl, ?_⟩
    cases b' with
    | false =>
      rw [if_neg Bool.false_ne_true]
      exact Res.bl h2
    | true =>
      rw [if_pos rfl]
      refine seq1 er2 h2 fun z u H3 _ s3 hu er3 h3 => ?_
      cases e2 : cmpD o' y z with
      | stk => rw [e2] at h3; exact h3.elim
      | exc z => exact (cmpD_exc e2).elim
      | ok d =>
        rw [e2] at h3
        obtain ⟨b', rfl⟩ := cmpD_bl e2
        exact ⟨fun _ => True, y, z, b', hw.mono (fun _ _ => trivial) s3, hu.mono (fun _ _ => trivial) (Same.refl _), e2, Res.bl h3⟩
theorem se_cmp2 {o o' : CmpO} {a b c : Ex} {ea eb ec : Expr} {pos : Pos} (P : PX G S T X L W ex) (ha : PE X ea (tD G T W ex A₀ H₀ a)) (hb : PE X eb (tD G T W ex A₀ H₀ b)) (hc : PE X ec (tD G T W ex A₀ H₀ c)) (hm : lastMarks [cOp o, cOp o'] [eb, ec] = false) :
    PE X (.Compare ea [cOp o, cOp o'] [eb, ec] pos) (tD G T W ex A₀ H₀ (.cmp2 o o' a b c)) := by
  refine PE.of (pe_chain (op_cmp P.hG P.un o) (op_cmp P.hG P.un o') ha hb hc hm) fun σ H Q ⟨A, O, ρ, er, h⟩ => ?_
  rw [ev] at h
  exact chain_step er h
theorem st_cmp2 {o o' : CmpO} {a b c : Ex} {ea eb ec : Expr} {pos : Pos} (P : PX G S T X L W ex) (ha : PE X ea (tD G T W ex A₀ H₀ a)) (hb : PE X eb (tD G T W ex A₀ H₀ b)) (hc : PE X ec (tD G T W ex A₀ H₀ c)) (hm : lastMarks [cOp o, cOp o'] [eb, ec] = false) :
    PT X (.Compare ea [cOp o, cOp o'] [eb, ec] pos) (tDB G T W ex A₀ H₀ (.cmp2 o o' a b c)) := by
  refine PT.of (pt_chain (op_cmp P.hG P.un o) (op_cmp P.hG P.un o') ha hb hc hm) fun σ H Q ⟨A, O, ρ, er, h⟩ => ?_
  rw [ev] at h
  exact chain_step er (test_cmp (A := A) (fun d e => chain_bl e) h)
def chain3R (T : Tab) (o o' o2 : CmpO) (a b c d : Ex) (ρ : Env) : R D := (ev T a ρ).bind fun x => (ev T b ρ).bind fun y => (cmpD o x y).bind fun r => match r with
    | .bl true => (ev T c ρ).bind fun z => (cmpD o' y z).bind fun r => match r with
      | .bl true => (ev T d ρ).bind fun w => cmpD o2 z w
      | .bl false => .ok (.bl false)
      | _ => .stk
    | .bl false => .ok (.bl false)
    | _ => .stk
theorem chain3_bl {o o' o2 : CmpO} {a b c d : Ex} {ρ : Env} {r : D} (h : chain3R T o o' o2 a b c d ρ = .ok r) : ∃ k, r = .bl k := by
  obtain ⟨x, _, h⟩ := bind_ok h
  obtain ⟨y, _, h⟩ := bind_ok h
  obtain ⟨r, e, h⟩ := bind_ok h
  obtain ⟨b, rfl⟩ := cmpD_bl e
  cases b with
  | false => exact ⟨false, (ok_inj h).symm⟩
  | true =>
    obtain ⟨z, _, h⟩ := bind_ok h
    obtain ⟨r, e, h⟩ := bind_ok h
    obtain ⟨b, rfl⟩ := cmpD_bl e
    cases b with
    | false => exact ⟨false, (ok_inj h).symm⟩
    | true =>
      obtain ⟨z, _, h⟩ := bind_ok h
      exact cmpD_bl h
theorem chain3_step {o o' o2 : CmpO} {a b c d : Ex} {A : Addr → Prop} {O : Ow} {σ : L2.St} {H : Hp} {ρ : Env} {f : Bool} {B : Addr → Prop} {Q : VK} (er : ER G ex A₀ H₀ A O σ H ρ) (h : outD G W B σ f H (chain3R T o o' o2 a b c d ρ) Q) :
    tChain3 (rCmp G o) (rCmp G o') (rCmp G o2) (tD G T W ex A₀ H₀ a) (tD G T W ex A₀ H₀ b) (tD G T W ex A₀ H₀ c) (tD G T W ex A₀ H₀ d) σ H Q := by
  refine seq2 er h fun x y v w H2 _ _ s hv hw er2 h2 => ?_
  cases e : cmpD o x y with
  | stk => rw [e] at h2; exact h2.elim
  | exc z => exact (cmpD_exc e).elim
  | ok t =>
    rw [e] at h2
    obtain ⟨k, rfl⟩ := cmpD_bl e
    refine ⟨_, x, y, k, hv, hw, e, k, rfl, ?_⟩
    cases k with
    | false =>
      rw [if_neg Bool.false_ne_true]
      exact Res.bl h2
    | true =>
      rw [if_pos rfl]
      refine seq1 er2 h2 fun z u H3 _ s3 hu er3 h3 => ?_
      cases e2 : cmpD o' y z with
      | stk => rw [e2] at h3; exact h3.elim
      | exc z => exact (cmpD_exc e2).elim
      | ok t =>
        rw [e2] at h3
        obtain ⟨k, rfl⟩ := cmpD_bl e2
        refine ⟨fun _ => True, y, z, k, hw.mono (fun _ _ => trivial) s3, hu.mono (fun _ _ => trivial) (Same.refl _), e2, k, rfl, ?_⟩
        cases k with
        | false =>
          rw [if_neg Bool.false_ne_true]
          exact Res.bl h3
        | true =>
          rw [if_pos rfl]
          refine seq1 er3 h3 fun z2 u2 H4 _ s4 hu2 er4 h4 => ?_
          cases e3 : cmpD o2 z z2 with
          | stk => rw [e3] at h4; exact h4.elim
          | exc z => exact (cmpD_exc e3).elim
          | ok t =>
            rw [e3] at h4
            obtain ⟨k, rfl⟩ := cmpD_bl e3
            exact ⟨fun _ => True, z, z2, k, hu.mono (fun _ _ => trivial) s4, hu2.mono (fun _ _ => trivial) (Same.refl _), e3, Res.bl h4⟩
theorem se_cmp3 {o o' o2 : CmpO} {a b c d : Ex} {ea eb ec ed : Expr} {pos : Pos} (P : PX G S T X L W ex) (ha : PE X ea (tD G T W ex A₀ H₀ a)) (hb : PE X eb (tD G T W ex A₀ H₀ b)) (hc : PE X ec (tD G T W ex A₀ H₀ c)) (hd : PE X ed (tD G T W ex A₀ H₀ d)) (hm : lastMarks [cOp o, cOp o', cOp o2] [eb, ec, ed] = false) :
    PE X (.Compare ea [cOp o, cOp o', cOp o2] [eb, ec, ed] pos) (tD G T W ex A₀ H₀ (.cmp3 o o' o2 a b c d)) := by
  refine PE.of (pe_chain3 (op_cmp P.hG P.un o) (op_cmp P.hG P.un o') (op_cmp P.hG P.un o2) ha hb hc hd hm) fun σ H Q ⟨A, O, ρ, er, h⟩ => ?_
  rw [ev] at h
  exact chain3_step er h
theorem st_cmp3 {o o' o2 : CmpO} {a b c d : Ex} {ea eb ec ed : Expr} {pos : Pos} (P : PX G S T X L W ex) (ha : PE X ea (tD G T W ex A₀ H₀ a)) (hb : PE X eb (tD G T W ex A₀ H₀ b)) (hc : PE X ec (tD G T W ex A₀ H₀ c)) (hd : PE X ed (tD G T W ex A₀ H₀ d)) (hm : lastMarks [cOp o, cOp o', cOp o2] [eb, ec, ed] = false) :
    PT X (.Compare ea [cOp o, cOp o', cOp o2] [eb, ec, ed] pos) (tDB G T W ex A₀ H₀ (.cmp3 o o' o2 a b c d)) := by
  refine PT.of (pt_chain3 (op_cmp P.hG P.un o) (op_cmp P.hG P.un o') (op_cmp P.hG P.un o2) ha hb hc hd hm) fun σ H Q ⟨A, O, ρ, er, h⟩ => ?_
  rw [ev] at h
  exact chain3_step er (test_cmp (A := A) (fun d e => chain3_bl e) h)
/-! is None -/
theorem non_iff {A : Addr → Prop} {H : Hp} {v : V} {x : D} (hv : Has G A H v x) : decide (v = .non) = isNon x := by cases hv <;> simp [isNon]
theorem non_iff2 {A : Addr → Prop} {H : Hp} {v : V} {x : D} (hv : Has G A H v x) : (!decide (v = .non)) = !isNon x := by rw [non_iff hv]
theorem isN_step {a : Ex} {A : Addr → Prop} {O : Ow} {σ : L2.St} {H : Hp} {ρ : Env} {f : Bool} {B : Addr → Prop} {Q : VK} (er : ER G ex A₀ H₀ A O σ H ρ) (h : outD G W B σ f H (ev T (.isN a) ρ) Q) : tIsN (tD G T W ex A₀ H₀ a) σ H Q := by
  rw [ev] at h
  refine seq1 er h fun x v H1 _ s hv er1 h1 => ?_
  rw [non_iff hv]
  exact Res.bl h1
theorem notN_step {a : Ex} {A : Addr → Prop} {O : Ow} {σ : L2.St} {H : Hp} {ρ : Env} {f : Bool} {B : Addr → Prop} {Q : VK} (er : ER G ex A₀ H₀ A O σ H ρ) (h : outD G W B σ f H (ev T (.notN a) ρ) Q) : tNotN (tD G T W ex A₀ H₀ a) σ H Q := by
  rw [ev] at h
  refine seq1 er h fun x v H1 _ s hv er1 h1 => ?_
  rw [non_iff2 hv]
  exact Res.bl h1
theorem bl_isN {a : Ex} {ρ : Env} {d : D} (h : ev T (.isN a) ρ = .ok d) : ∃ k, d = .bl k := by
  rw [ev] at h
  obtain ⟨x, _, h⟩ := bind_ok h
  exact ⟨_, (ok_inj h).symm⟩
theorem bl_notN {a : Ex} {ρ : Env} {d : D} (h : ev T (.notN a) ρ = .ok d) : ∃ k, d = .bl k := by
  rw [ev] at h
  obtain ⟨x, _, h⟩ := bind_ok h
  exact ⟨_, (ok_inj h).symm⟩
theorem se_isN {a : Ex} {ea : Expr} {j : Nat} {p pos : Pos} (ha : PE X ea (tD G T W ex A₀ H₀ a)) : PE X (.Compare ea [.Is] [.Constant .none j p] pos) (tD G T W ex A₀ H₀ (.isN a)) :=
  PE.of (pe_cmp (pc_isN ha)) fun σ H Q ⟨A, O, ρ, er, h⟩ => isN_step er h
theorem se_notN {a : Ex} {ea : Expr} {j : Nat} {p pos : Pos} (ha : PE X ea (tD G T W ex A₀ H₀ a)) : PE X (.Compare ea [.IsNot] [.Constant .none j p] pos) (tD G T W ex A₀ H₀ (.notN a)) :=
  PE.of (pe_cmp (pc_notN ha)) fun σ H Q ⟨A, O, ρ, er, h⟩ => notN_step er h
theorem st_isN {a : Ex} {ea : Expr} {j : Nat} {p pos : Pos} (ha : PE X ea (tD G T W ex A₀ H₀ a)) : PT X (.Compare ea [.Is] [.Constant .none j p] pos) (tDB G T W ex A₀ H₀ (.isN a)) :=
  PT.of (pt_cmp (pc_isN ha)) fun σ H Q ⟨A, O, ρ, er, h⟩ => isN_step er (test_cmp (A := A) (fun d e => bl_isN e) h)
theorem st_notN {a : Ex} {ea : Expr} {j : Nat} {p pos : Pos} (ha : PE X ea (tD G T W ex A₀ H₀ a)) : PT X (.Compare ea [.IsNot] [.Constant .none j p] pos) (tDB G T W ex A₀ H₀ (.notN a)) :=
  PT.of (pt_cmp (pc_notN ha)) fun σ H Q ⟨A, O, ρ, er, h⟩ => notN_step er (test_cmp (A := A) (fun d e => bl_notN e) h)

/-! ### and, or, not, if -/
theorem outB_exc {σ : L2.St} {H H' : Hp} {x : Xc} {Q Q' : Bool → Hp → Prop} (s : Same H H') (h : outB G W σ H (.exc x) Q) : outB G W σ H' (.exc x) Q' := fun cls dx H2 s2 r => h cls dx H2 (same_tr s s2) r
theorem outB_up {σ : L2.St} {H H' : Hp} {r : R Bool} {Q : Bool → Hp → Prop} (s : Same H H') (h : outB G W σ H r Q) : outB G W σ H' r Q := by
  cases r with
  | stk => exact h
  | exc x => exact outB_exc s h
  | ok b => exact fun H2 s2 => h H2 (same_tr s s2)
theorem outBD {A : Addr → Prop} {σ : L2.St} {f : Bool} {H H' : Hp} {x : Xc} {Q : VK} {Q' : Bool → Hp → Prop} (s : Same H H') (h : outD G W A σ f H (.exc x) Q) : outB G W σ H' (.exc x) Q' := fun cls dx H2 s2 r => h cls dx H2 (same_tr s s2) r
/-- a test, then a value -/
theorem seqT {a : Ex} {A : Addr → Prop} {O : Ow} {σ : L2.St} {H : Hp} {ρ : Env} {f : Bool} {g : Bool → R D} {B : Addr → Prop} {Q : VK} {R : Bool → Hp → Prop} (er : ER G ex A₀ H₀ A O σ H ρ) (h : outD G W B σ f H (((ev T a ρ).bind truR).bind g) Q)
    (k : ∀ x H1, Same H H1 → ER G ex A₀ H₀ (fr A H) O σ H1 ρ → outD G W (fr B H) σ f H1 (g x) Q → R x H1) : tDB G T W ex A₀ H₀ a σ H R := by
  refine ⟨A, O, ρ, er, ?_⟩
  cases e : (ev T a ρ).bind truR with
  | stk => rw [e] at h; exact h
  | exc x => rw [e] at h; exact outBD (Same.refl H) h
  | ok x =>
    rw [e] at h
    exact fun H1 s1 => k x H1 s1 (er.go s1) (outD_up s1 (fun _ z => z) h)
theorem seqTB {a : Ex} {A : Addr → Prop} {O : Ow} {σ : L2.St} {H : Hp} {ρ : Env} {g : Bool → R Bool} {Q : Bool → Hp → Prop} {R : Bool → Hp → Prop} (er : ER G ex A₀ H₀ A O σ H ρ) (h : outB G W σ H (((ev T a ρ).bind truR).bind g) Q)
    (k : ∀ x H1, Same H H1 → ER G ex A₀ H₀ (fr A H) O σ H1 ρ → outB G W σ H1 (g x) Q → R x H1) : tDB G T W ex A₀ H₀ a σ H R := by
  refine ⟨A, O, ρ, er, ?_⟩
  cases e : (ev T a ρ).bind truR with
  | stk => rw [e] at h; exact h
  | exc x => rw [e] at h; exact outB_exc (Same.refl H) h
  | ok x =>
    rw [e] at h
    exact fun H1 s1 => k x H1 s1 (er.go s1) (outB_up s1 h)
theorem bind_assoc {α β γ : Type} (r : R α) (f : α → R β) (g : β → R γ) : (r.bind f).bind g = r.bind fun x => (f x).bind g := by cases r <;> rfl
theorem bind_congr {α β : Type} {r : R α} {f g : α → R β} (h : ∀ x, f x = g x) : r.bind f = r.bind g := by cases r <;> simp [R.bind, h]
theorem roots_and (a b : Ex) : roots (.and a b) = roots a ++ roots b := rfl
theorem se_and {a b : Ex} {ea eb : Expr} {rest : List Expr} {pos : Pos} (ha : PE X ea (tD G T W ex A₀ H₀ a)) (hb : PE X (.BoolOp .And (eb :: rest) pos) (tD G T W ex A₀ H₀ b)) : PE X (.BoolOp .And (ea :: eb :: rest) pos) (tD G T W ex A₀ H₀ (.and a b)) := by
  refine ⟨fun pins s σ H Q I ⟨A, O, ρ, er, h⟩ => ?_⟩
  rw [ev] at h
  have h2 := seq1 (R := fun v H1 => ∃ x k, Has G (fr (wi A O (roots a)) H) H1 v x ∧ tru x = some k ∧ (if k = true then tD G T W ex A₀ H₀ b σ H1 Q else Q v H1)) er h fun x v H1 e s hv er1 h1 => by
    unfold truR at h1
    cases et : tru x with
    | none => rw [et] at h1; exact h1.elim
    | some k =>
      rw [et] at h1
      refine ⟨x, k, hv, et, ?_⟩
      cases k with
      | false =>
        rw [if_neg Bool.false_ne_true]
        have h1 : Res G (fr (wi A O (roots a ++ roots b)) H) false H1 x Q := h1
        exact h1.here (hv.mono (fun q z => fr_wi (fun j hj => List.mem_append_left _ hj) z) (Same.refl H1))
      | true =>
        rw [if_pos rfl]
        refine ⟨_, O, ρ, er1, ?_⟩
        refine outD_imp (f := false) (fun e => absurd e Bool.false_ne_true) (outD_up (Same.refl H1) (fun q z => ?_) h1) fun _ _ q => q
        rcases z with z | z
        · exact .inl (z.imp (fun z => .inl z) id)
        · exact .inl (.inl (.inr (let ⟨j, hj, k, z⟩ := z; ⟨j, List.mem_append_right _ hj, k, z⟩)))
  refine BoolOp_and (thn (ha.run pins s σ H _ I h2) fun v s1 ⟨u, H1, I1, r1, x, k, hv, et, q1⟩ => ?_)
  refine thn (tru_D (G := G) pins s1 σ H1 u v (fun c H2 => c = k ∧ H2 = H1) I1 r1 ⟨_, x, k, hv, et, rfl, rfl⟩) fun c s2 hc => ?_
  obtain ⟨H2, I2, e1, e2⟩ := hc
  rw [e2] at I2
  rw [← e1] at q1
  cases c with
  | true => exact hb.run pins s2 σ H1 Q I2 q1
  | false => exact ⟨u, H1, I2, r1, q1⟩
theorem se_or {a b : Ex} {ea eb : Expr} {rest : List Expr} {pos : Pos} (ha : PE X ea (tD G T W ex A₀ H₀ a)) (hb : PE X (.BoolOp .Or (eb :: rest) pos) (tD G T W ex A₀ H₀ b)) : PE X (.BoolOp .Or (ea :: eb :: rest) pos) (tD G T W ex A₀ H₀ (.or a b)) := by
  refine ⟨fun pins s σ H Q I ⟨A, O, ρ, er, h⟩ => ?_⟩
  rw [ev] at h
  have h2 := seq1 (R := fun v H1 => ∃ x k, Has G (fr (wi A O (roots a)) H) H1 v x ∧ tru x = some k ∧ (if k = true then Q v H1 else tD G T W ex A₀ H₀ b σ H1 Q)) er h fun x v H1 e s hv er1 h1 => by
    unfold truR at h1
    cases et : tru x with
    | none => rw [et] at h1; exact h1.elim
    | some k =>
      rw [et] at h1
      refine ⟨x, k, hv, et, ?_⟩
      cases k with
      | true =>
        rw [if_pos rfl]
        have h1 : Res G (fr (wi A O (roots a ++ roots b)) H) false H1 x Q := h1
        exact h1.here (hv.mono (fun q z => fr_wi (fun j hj => List.mem_append_left _ hj) z) (Same.refl H1))
      | false =>
        rw [if_neg Bool.false_ne_true]
        refine ⟨_, O, ρ, er1, ?_⟩
        refine outD_imp (f := false) (fun e => absurd e Bool.false_ne_true) (outD_up (Same.refl H1) (fun q z => ?_) h1) fun _ _ q => q
        rcases z with z | z
        · exact .inl (z.imp (fun z => .inl z) id)
        · exact .inl (.inl (.inr (let ⟨j, hj, k, z⟩ := z; ⟨j, List.mem_append_right _ hj, k, z⟩)))
  refine BoolOp_or (thn (ha.run pins s σ H _ I h2) fun v s1 ⟨u, H1, I1, r1, x, k, hv, et, q1⟩ => ?_)
  refine thn (tru_D (G := G) pins s1 σ H1 u v (fun c H2 => c = k ∧ H2 = H1) I1 r1 ⟨_, x, k, hv, et, rfl, rfl⟩) fun c s2 hc => ?_
  obtain ⟨H2, I2, e1, e2⟩ := hc
  rw [e2] at I2
  rw [← e1] at q1
  cases c with
  | true => exact ⟨u, H1, I2, r1, q1⟩
  | false => exact hb.run pins s2 σ H1 Q I2 q1
theorem ev_and (a b : Ex) (ρ : Env) : (ev T (.and a b) ρ).bind truR = ((ev T a ρ).bind truR).bind fun k => match k with
    | true => (ev T b ρ).bind truR
    | false => .ok false := by
  rw [ev, bind_assoc, bind_assoc]
  refine bind_congr fun x => ?_
  unfold truR
  cases e : tru x with
  | none => rfl
  | some k =>
    cases k with
    | true => rfl
    | false =>
      show R.ofO (tru x) = _
      rw [e]
      rfl
theorem ev_or (a b : Ex) (ρ : Env) : (ev T (.or a b) ρ).bind truR = ((ev T a ρ).bind truR).bind fun k => match k with
    | true => .ok true
    | false => (ev T b ρ).bind truR := by
  rw [ev, bind_assoc, bind_assoc]
  refine bind_congr fun x => ?_
  unfold truR
  cases e : tru x with
  | none => rfl
  | some k =>
    cases k with
    | false => rfl
    | true =>
      show R.ofO (tru x) = _
      rw [e]
      rfl
theorem and_step {a b : Ex} {A : Addr → Prop} {O : Ow} {σ : L2.St} {H : Hp} {ρ : Env} {Q : Bool → Hp → Prop} (er : ER G ex A₀ H₀ A O σ H ρ) (h : outB G W σ H ((ev T (.and a b) ρ).bind truR) Q) : tAnd (tDB G T W ex A₀ H₀ a) (tDB G T W ex A₀ H₀ b) σ H Q := by
  rw [ev_and] at h
  refine seqTB er h fun x H1 s er1 h1 => ?_
  cases x with
  | true =>
    rw [if_pos rfl]
    exact ⟨_, O, ρ, er1, h1⟩
  | false =>
    rw [if_neg Bool.false_ne_true]
    exact h1 H1 (Same.refl H1)
theorem or_step {a b : Ex} {A : Addr → Prop} {O : Ow} {σ : L2.St} {H : Hp} {ρ : Env} {Q : Bool → Hp → Prop} (er : ER G ex A₀ H₀ A O σ H ρ) (h : outB G W σ H ((ev T (.or a b) ρ).bind truR) Q) : tOr (tDB G T W ex A₀ H₀ a) (tDB G T W ex A₀ H₀ b) σ H Q := by
  rw [ev_or] at h
  refine seqTB er h fun x H1 s er1 h1 => ?_
  cases x with
  | false =>
    rw [if_neg Bool.false_ne_true]
    exact ⟨_, O, ρ, er1, h1⟩
  | true =>
    rw [if_pos rfl]
    exact h1 H1 (Same.refl H1)
theorem sw_and {a b : Ex} {ea eb : Expr} {rest : List Expr} {pos : Pos} (ha : PT X ea (tDB G T W ex A₀ H₀ a)) (hb : PW X (.BoolOp .And (eb :: rest) pos) (tDB G T W ex A₀ H₀ b)) : PW X (.BoolOp .And (ea :: eb :: rest) pos) (tDB G T W ex A₀ H₀ (.and a b)) :=
  PW.of (pw_and ha hb) fun σ H Q ⟨A, O, ρ, er, h⟩ => and_step er h
theorem sw_or {a b : Ex} {ea eb : Expr} {rest : List Expr} {pos : Pos} (ha : PT X ea (tDB G T W ex A₀ H₀ a)) (hb : PW X (.BoolOp .Or (eb :: rest) pos) (tDB G T W ex A₀ H₀ b)) : PW X (.BoolOp .Or (ea :: eb :: rest) pos) (tDB G T W ex A₀ H₀ (.or a b)) :=
  PW.of (pw_or ha hb) fun σ H Q ⟨A, O, ρ, er, h⟩ => or_step er h
theorem ev_not (a : Ex) (ρ : Env) : ev T (.not a) ρ = ((ev T a ρ).bind truR).bind fun k => .ok (.bl (!k)) := by
  rw [ev, bind_assoc]
theorem se_not {a : Ex} {ea : Expr} {pos : Pos} (ha : PE X ea (tD G T W ex A₀ H₀ a)) : PE X (.UnaryOp .Not ea pos) (tD G T W ex A₀ H₀ (.not a)) := by
  refine ⟨fun pins s σ H Q I ⟨A, O, ρ, er, h⟩ => ?_⟩
  rw [ev] at h
  have h2 := seq1 (R := fun v H1 => ∃ x k, Has G (fr (wi A O (roots a)) H) H1 v x ∧ tru x = some k ∧ Q (.bl (!k)) H1) er h fun x v H1 e s hv er1 h1 => by
    unfold truR at h1
    cases et : tru x with
    | none => rw [et] at h1; exact h1.elim
    | some k =>
      rw [et] at h1
      exact ⟨x, k, hv, et, Res.bl h1⟩
  refine UnaryOp_ (thn (ha.run pins s σ H _ I h2) fun v s1 ⟨u, H1, I1, r1, x, k, hv, et, q1⟩ => ?_)
  exact not_of (thn (tru_D (G := G) pins s1 σ H1 u v (fun c H2 => Q (.bl (!c)) H2) I1 r1 ⟨_, x, k, hv, et, q1⟩) fun c s2 ⟨H2, I2, q2⟩ => ⟨.bl (!c), H2, I2, rfl, q2⟩)
theorem st_not {a : Ex} {ea : Expr} {pos : Pos} (ha : PT X ea (tDB G T W ex A₀ H₀ a)) : PT X (.UnaryOp .Not ea pos) (tDB G T W ex A₀ H₀ (.not a)) := by
  refine PT.of (pt_not ha) fun σ H Q ⟨A, O, ρ, er, h⟩ => ?_
  rw [ev_not, bind_assoc] at h
  refine seqTB er h fun x H1 s er1 h1 => ?_
  exact h1 H1 (Same.refl H1)
theorem ev_ite (c a b : Ex) (ρ : Env) : ev T (.ite c a b) ρ = ((ev T c ρ).bind truR).bind fun k => match k with
    | true => ev T a ρ
    | false => ev T b ρ := by
  rw [ev, bind_assoc] <;> rfl
theorem se_ite {c a b : Ex} {ec ea eb : Expr} {pos : Pos} (hc : PT X ec (tDB G T W ex A₀ H₀ c)) (ha : PE X ea (tD G T W ex A₀ H₀ a)) (hb : PE X eb (tD G T W ex A₀ H₀ b)) : PE X (.IfExp ec ea eb pos) (tD G T W ex A₀ H₀ (.ite c a b)) := by
  refine PE.of (pe_ifExp hc ha hb) fun σ H Q ⟨A, O, ρ, er, h⟩ => ?_
  rw [ev_ite] at h
  refine seqT er h fun x H1 s er1 h1 => ?_
  cases x with
  | true =>
    rw [if_pos rfl]
    refine ⟨_, O, ρ, er1, outD_imp (f := false) (fun e => absurd e Bool.false_ne_true) (outD_up (Same.refl H1) (fun q z => ?_) h1) fun _ _ q => q⟩
    rcases z with z | z
    · exact .inl (z.imp (fun z => .inl z) id)
    · exact .inl (.inl (.inr (let ⟨j, hj, k, z⟩ := z; ⟨j, List.mem_append_left _ hj, k, z⟩)))
  | false =>
    rw [if_neg Bool.false_ne_true]
    refine ⟨_, O, ρ, er1, outD_imp (f := false) (fun e => absurd e Bool.false_ne_true) (outD_up (Same.refl H1) (fun q z => ?_) h1) fun _ _ q => q⟩
    rcases z with z | z
    · exact .inl (z.imp (fun z => .inl z) id)
    · exact .inl (.inl (.inr (let ⟨j, hj, k, z⟩ := z; ⟨j, List.mem_append_right _ hj, k, z⟩)))
/-- as a test -/
theorem st_ite {c a b : Ex} {ec ea eb : Expr} {pos : Pos} (hc : PT X ec (tDB G T W ex A₀ H₀ c)) (ha : PT X ea (tDB G T W ex A₀ H₀ a)) (hb : PT X eb (tDB G T W ex A₀ H₀ b)) : PT X (.IfExp ec ea eb pos) (tDB G T W ex A₀ H₀ (.ite c a b)) := by
  refine ⟨fun pins s σ H Q I ⟨A, O, ρ, er, h⟩ => ?_⟩
  rw [ev_ite, bind_assoc] at h
  have h2 := seqTB (R := fun k H1 => if k = true then tDB G T W ex A₀ H₀ a σ H1 Q else tDB G T W ex A₀ H₀ b σ H1 Q) er h fun x H1 s er1 h1 => by
    cases x with
    | true => rw [if_pos rfl]; exact ⟨_, O, ρ, er1, h1⟩
    | false => rw [if_neg Bool.false_ne_true]; exact ⟨_, O, ρ, er1, h1⟩
  show wpAny _ X.A (do if ← isTrue ec X.env (eval ec X.env) then isTrue ea X.env (eval ea X.env) else isTrue eb X.env (eval eb X.env)) _ _ s
  refine wpAny_bind (thn (hc.run pins s σ H _ I h2) fun k s1 ⟨H1, I1, q1⟩ => ?_)
  cases k with
  | true => exact ha.run pins s1 σ H1 Q I1 q1
  | false => exact hb.run pins s1 σ H1 Q I1 q1
end
end PD
end

section
set_option Elab.async false
set_option linter.all false
set_option maxRecDepth 100000
set_option maxHeartbeats 4000000
/-! PD, part 9: expressions: displays, subscripts, fields, calls. -/
namespace PD
open PySem PySem.Spec PyProof.Rows L2
section
variable {G : Sg} {S : Sx} {T : Tab} {X : Cx} {L : Lo} {W : WX} {ex : ExI} {A₀ : Addr → Prop} {H₀ : Hp}

theorem outDL_exc {A A' : Addr → Prop} {σ : L2.St} {f : Bool} {H H' : Hp} {x : Xc} {Q : List V → Hp → Prop} {Q' : VK} (s : Same H H') (h : outL G W A σ H (.exc x) Q) : outD G W A' σ f H' (.exc x) Q' := fun cls dx H2 s2 r => h cls dx H2 (same_tr s s2) r
theorem outLD_exc {A A' : Addr → Prop} {σ : L2.St} {f : Bool} {H H' : Hp} {x : Xc} {Q : VK} {Q' : List V → Hp → Prop} (s : Same H H') (h : outD G W A σ f H (.exc x) Q) : outL G W A' σ H' (.exc x) Q' := fun cls dx H2 s2 r => h cls dx H2 (same_tr s s2) r
theorem outL_exc {A A' : Addr → Prop} {σ : L2.St} {H H' : Hp} {x : Xc} {Q Q' : List V → Hp → Prop} (s : Same H H') (h : outL G W A σ H (.exc x) Q) : outL G W A' σ H' (.exc x) Q' := fun cls dx H2 s2 r => h cls dx H2 (same_tr s s2) r
theorem outL_up {A A' : Addr → Prop} {σ : L2.St} {H H' : Hp} {r : R (List D)} {Q : List V → Hp → Prop} (s : Same H H') (hA : ∀ q, A' q → fr A H q) (h : outL G W A σ H r Q) : outL G W A' σ H' r Q := by
  cases r with
  | ok d => exact fun vs H2 s2 hv => h vs H2 (same_tr s s2) (hv.mono (fun q z => fr_up s hA z) (Same.refl _))
  | exc x => exact outL_exc s h
  | stk => exact h
/-- one value, then a list -/
theorem seq1L {a : Ex} {A : Addr → Prop} {O : Ow} {σ : L2.St} {H : Hp} {ρ : Env} {g : D → R (List D)} {B : Addr → Prop} {Q : List V → Hp → Prop} {R : V → Hp → Prop} (er : ER G ex A₀ H₀ A O σ H ρ) (h : outL G W B σ H ((ev T a ρ).bind g) Q)
    (k : ∀ x v H1, ev T a ρ = .ok x → Same H H1 → Has G (fr (wi A O (roots a)) H) H1 v x → ER G ex A₀ H₀ (fr A H) O σ H1 ρ → outL G W (fr B H) σ H1 (g x) Q → R v H1) : tD G T W ex A₀ H₀ a σ H R := by
  refine ⟨A, O, ρ, er, ?_⟩
  cases e : ev T a ρ with
  | stk => rw [e] at h; exact h
  | exc x => rw [e] at h; exact outDL_exc (Same.refl H) h
  | ok x =>
    rw [e] at h
    exact fun v H1 s1 hv _ => k x v H1 e s1 hv (er.go s1) (outL_up s1 (fun _ z => z) h)
/-- values, then the rest -/
theorem seqL {es : Exs} {A : Addr → Prop} {O : Ow} {σ : L2.St} {H : Hp} {ρ : Env} {f : Bool} {g : List D → R D} {B : Addr → Prop} {Q : VK} {R : List V → Hp → Prop} (er : ER G ex A₀ H₀ A O σ H ρ) (h : outD G W B σ f H ((evs T es ρ).bind g) Q)
    (k : ∀ ds vs H1, evs T es ρ = .ok ds → Same H H1 → HasL G (fr (wi A O (rootsS es)) H) H1 vs ds → ER G ex A₀ H₀ (fr A H) O σ H1 ρ → outD G W (fr B H) σ f H1 (g ds) Q → R vs H1) : tDs G T W ex A₀ H₀ es σ H R := by
  refine ⟨A, O, ρ, er, ?_⟩
  cases e : evs T es ρ with
  | stk => rw [e] at h; exact h
  | exc x => rw [e] at h; exact outLD_exc (Same.refl H) h
  | ok x =>
    rw [e] at h
    exact fun vs H1 s1 hv => k x vs H1 e s1 hv (er.go s1) (outD_up s1 (fun _ z => z) h)
theorem seqLL {es : Exs} {A : Addr → Prop} {O : Ow} {σ : L2.St} {H : Hp} {ρ : Env} {g : List D → R (List D)} {B : Addr → Prop} {Q : List V → Hp → Prop} {R : List V → Hp → Prop} (er : ER G ex A₀ H₀ A O σ H ρ) (h : outL G W B σ H ((evs T es ρ).bind g) Q)
    (k : ∀ ds vs H1, evs T es ρ = .ok ds → Same H H1 → HasL G (fr (wi A O (rootsS es)) H) H1 vs ds → ER G ex A₀ H₀ (fr A H) O σ H1 ρ → outL G W (fr B H) σ H1 (g ds) Q → R vs H1) : tDs G T W ex A₀ H₀ es σ H R := by
  refine ⟨A, O, ρ, er, ?_⟩
  cases e : evs T es ρ with
  | stk => rw [e] at h; exact h
  | exc x => rw [e] at h; exact outL_exc (Same.refl H) h
  | ok x =>
    rw [e] at h
    exact fun vs H1 s1 hv => k x vs H1 e s1 hv (er.go s1) (outL_up s1 (fun _ z => z) h)
def notStar : Expr → Bool
  | .Starred _ _ => false
  | _ => true
def noStars : List Expr → Bool
  | [] => true
  | e :: es => notStar e && noStars es
theorem star_no {e : Expr} (h : notStar e = true) (es : List Expr) (env : PySem.Env) : starEach (e :: es) env = (false, eval e env) :: starEach es env := by
  cases e <;> first
    | rfl
    | cases h
theorem stars_no : ∀ {es : List Expr}, noStars es = true → ∀ (pos : Pos) (env : PySem.Env), (backTo pos (starEach es env)).any (·.1) = false
  | [], _, _, _ => rfl
  | e :: es, h, pos, env => by
    obtain ⟨h1, h2⟩ := bb h
    rw [star_no h1]
    show (false || (backTo pos (starEach es env)).any (·.1)) = false
    rw [stars_no h2, Bool.or_false]
theorem sa_nil : PA X [] (tDs G T W ex A₀ H₀ .nil) := PA.of pa_nil fun σ H Q ⟨A, O, ρ, er, h⟩ => by
  rw [evs] at h
  exact h [] H (Same.refl H) .nil
theorem sa_cons {i : Ex} {r : Exs} {e : Expr} {es : List Expr} (ha : PE X e (tD G T W ex A₀ H₀ i)) (hr : PA X es (tDs G T W ex A₀ H₀ r)) (hs : notStar e = true) : PA X (e :: es) (tDs G T W ex A₀ H₀ (.cons i r)) := by
  refine PA.of (pa_cons ha hr (star_no hs es _)) fun σ H Q ⟨A, O, ρ, er, h⟩ => ?_
  rw [evs] at h
  refine seq1L er h fun x v H1 _ s1 hv er1 h1 => ?_
  refine seqLL er1 h1 fun xs vs H2 _ s2 hw er2 h2 => ?_
  refine h2 _ H2 (Same.refl H2) (.cons (hv.mono (fun q z => .inl (.inl (fr_wi (fun j hj => List.mem_append_left _ hj) z))) s2) (hw.mono (fun q z => .inl (.inl (fr_fr s1 (B := wi (fr A H) O (rootsS r)) (fun q z => ?_) z))) (Same.refl H2)))
  rcases z with z | ⟨j, hj, k, z⟩
  · exact z.imp (fun z => .inl z) id
  · exact .inl (.inr ⟨j, List.mem_append_right _ hj, k, z⟩)
/-! ### displays -/
theorem se_tup {es : Exs} {xs : List Expr} {n : Nat} {pos : Pos} (h : PA X xs (tDs G T W ex A₀ H₀ es)) : PE X (.Tuple xs n pos) (tD G T W ex A₀ H₀ (.tup es)) := by
  refine PE.of (pe_tup h) fun σ H Q ⟨A, O, ρ, er, h⟩ => ?_
  rw [ev] at h
  refine seqL er h fun ds vs H1 _ s1 hv er1 h1 => ?_
  cases c : decide (ds.length ≤ line) with
  | false => rw [c] at h1; exact h1.elim
  | true =>
    rw [c] at h1
    have h1 : Res G (fr (wi A O (rootsS es)) H) false H1 (.tup ds) Q := h1
    exact ⟨by rw [hv.length, ← line_eq]; exact of_decide_eq_true c, fun p hp => h1.tup hv hp⟩
theorem se_lst {es : Exs} {xs : List Expr} {pos : Pos} (h : PA X xs (tDs G T W ex A₀ H₀ es)) : PE X (.List xs pos) (tD G T W ex A₀ H₀ (.lst es)) := by
  refine PE.of (pe_lst h) fun σ H Q ⟨A, O, ρ, er, h⟩ => ?_
  rw [ev] at h
  refine seqL er h fun ds vs H1 _ s1 hv er1 h1 => ?_
  cases c : decide (ds.length ≤ line) with
  | false => rw [c] at h1; exact h1.elim
  | true =>
    rw [c] at h1
    have h1 : Res G (fr (wi A O (rootsS es)) H) true H1 (.lst ds) Q := h1
    exact ⟨by rw [hv.length, ← line_eq]; exact of_decide_eq_true c, fun p hp => h1.lst hv hp⟩
theorem se_newK {pos : Pos} : PE X (.Dict [] [] pos) (tD G T W ex A₀ H₀ (.newD false)) := by
  refine PE.of pe_dnewK fun σ H Q ⟨A, O, ρ, er, h⟩ => ?_
  rw [ev] at h
  exact fun p hp => h _ _ (same_upd hp) (.dK (.inr hp) (.inl upd_same) rfl .nil) fun _ => ⟨p, rfl, hp, [], upd_same, rfl, .nil⟩
theorem se_newT {pos : Pos} : PE X (.Dict [] [] pos) (tD G T W ex A₀ H₀ (.newD true)) := by
  refine PE.of pe_dnewT fun σ H Q ⟨A, O, ρ, er, h⟩ => ?_
  rw [ev] at h
  exact fun p hp => h _ _ (same_upd hp) (.dT (.inr hp) (.inl upd_same) rfl .nil) fun _ => ⟨p, rfl, hp, [], upd_same, rfl, .nil⟩
/-! ### subscripts, slices, fields -/
def notSlice : Expr → Bool
  | .Slice _ _ _ _ => false
  | _ => true
theorem plain_ix {b : Expr} (h : notSlice b = true) : PlainIx b := fun o i => by
  cases b <;> first
    | rfl
    | cases h
theorem se_idx {a b : Ex} {ea eb : Expr} {pos : Pos} (P : PX G S T X L W ex) (ha : PE X ea (tD G T W ex A₀ H₀ a)) (hb : PE X eb (tD G T W ex A₀ H₀ b)) (hs : notSlice eb = true) : PE X (.Subscript ea eb pos) (tD G T W ex A₀ H₀ (.idx a b)) := by
  refine PE.of (pe_ix (ix_D (G := G) P.hG P.un) ha hb (plain_ix hs)) fun σ H Q ⟨A, O, ρ, er, h⟩ => ?_
  rw [ev] at h
  have h : outD G W (wi A O (roots a)) σ false H ((ev T a ρ).bind fun x => (ev T b ρ).bind fun y => idxD x y) Q := h
  refine seq1 er h fun x v H1 _ s1 hv er1 h1 => ?_
  refine seq1 er1 h1 fun y w H2 _ s2 hw er2 h2 => ?_
  cases e : idxD x y with
  | stk => rw [e] at h2; exact h2.elim
  | exc z => exact (idxD_exc e).elim
  | ok d =>
    rw [e] at h2
    have h2 : Res G (fr (fr (wi A O (roots a)) H) H1) false H2 d Q := h2
    exact ⟨_, _, x, y, d, hv.mono (fun _ z => z) s2, hw, e, fun u hu => h2.here (hu.mono (fun _ z => .inl z) (Same.refl _))⟩
theorem slc_out {r : V → Option Int → Option Int → Hp → VK → Prop} {B : Addr → Prop} {σ : L2.St} {f : Bool} {H : Hp} {x : D} {v : V} {lo hi : Option Int} {Q : VK} {A : Addr → Prop} (hv : Has G A H v x) (hA : ∀ q, A q → fr B H q) (h : outD G W B σ true H (slcD x lo hi) Q) : rSlc G v lo hi H Q := by
  cases e : slcD x lo hi with
  | stk => rw [e] at h; exact h.elim
  | exc z => exact (slcD_exc e).elim
  | ok d =>
    rw [e] at h
    exact ⟨A, x, d, hv, e, Res.up (Same.refl H) hA h⟩
theorem se_slL {a l : Ex} {ea el : Expr} {p pos : Pos} (ha : PE X ea (tD G T W ex A₀ H₀ a)) (hl : PE X el (tD G T W ex A₀ H₀ l)) : PE X (.Subscript ea (.Slice (some el) none none p) pos) (tD G T W ex A₀ H₀ (.slL a l)) := by
  refine PE.of (pe_slice (sl_D (G := G)) ha (po_some hl) po_none) fun σ H Q ⟨A, O, ρ, er, h⟩ => ?_
  rw [ev] at h
  refine seq1 er h fun x v H1 _ s1 hv er1 h1 => ?_
  refine seq1 er1 h1 fun y w H2 _ s2 hw er2 h2 => ?_
  cases hw with
  | int i => exact ⟨i, rfl, slc_out (r := rSlc G) (f := true) (hv.mono (fun _ z => z) s2) (fun q z => .inl (.inl z)) h2⟩
  | _ => exact h2.elim
theorem se_slU {a l : Ex} {ea el : Expr} {p pos : Pos} (ha : PE X ea (tD G T W ex A₀ H₀ a)) (hl : PE X el (tD G T W ex A₀ H₀ l)) : PE X (.Subscript ea (.Slice none (some el) none p) pos) (tD G T W ex A₀ H₀ (.slU a l)) := by
  refine PE.of (pe_slice (sl_D (G := G)) ha po_none (po_some hl)) fun σ H Q ⟨A, O, ρ, er, h⟩ => ?_
  rw [ev] at h
  refine seq1 er h fun x v H1 _ s1 hv er1 h1 => ?_
  refine seq1 er1 h1 fun y w H2 _ s2 hw er2 h2 => ?_
  cases hw with
  | int i => exact ⟨i, rfl, slc_out (r := rSlc G) (f := true) (hv.mono (fun _ z => z) s2) (fun q z => .inl (.inl z)) h2⟩
  | _ => exact h2.elim
theorem se_slB {a l u : Ex} {ea el eu : Expr} {p pos : Pos} (ha : PE X ea (tD G T W ex A₀ H₀ a)) (hl : PE X el (tD G T W ex A₀ H₀ l)) (hu : PE X eu (tD G T W ex A₀ H₀ u)) : PE X (.Subscript ea (.Slice (some el) (some eu) none p) pos) (tD G T W ex A₀ H₀ (.slB a l u)) := by
  refine PE.of (pe_slice (sl_D (G := G)) ha (po_some hl) (po_some hu)) fun σ H Q ⟨A, O, ρ, er, h⟩ => ?_
  rw [ev] at h
  refine seq1 er h fun x v H1 _ s1 hv er1 h1 => ?_
  refine seq1 er1 h1 fun y w H2 _ s2 hw er2 h2 => ?_
  cases hw with
  | int i =>
    refine ⟨i, rfl, ?_⟩
    refine seq1 er2 h2 fun z t H3 _ s3 ht er3 h3 => ?_
    cases ht with
    | int j => exact ⟨j, rfl, slc_out (r := rSlc G) (f := true) (hv.mono (fun _ z => z) (same_tr s2 s3)) (fun q z => .inl (.inl (.inl z))) h3⟩
    | _ => exact h3.elim
  | _ => exact h2.elim
/-! ### fields -/
def attrOk : Expr → Bool
  | .Call _ _ _ _ => false
  | _ => true
theorem attr_base {o : Expr} (h : attrOk o = true) (f : Str) (env : PySem.Env) (w : Sem Value) : attributeBase o f env w = w := by
  cases o <;> first
    | rfl
    | cases h
theorem lookup_at : ∀ {fs : List (Str × V)} {j : Nat} {f : Str} {v : V}, (fs.map Prod.fst).Nodup → (fs.map Prod.fst)[j]? = some f → (fs.map Prod.snd)[j]? = some v → fs.lookup f = some v
  | [], j, f, v, _, e, _ => by simp at e
  | (g, w) :: fs, 0, f, v, _, e, e2 => by
    simp at e e2
    subst e e2
    simp [List.lookup_cons]
  | (g, w) :: fs, j + 1, f, v, n, e, e2 => by
    rw [List.map_cons, List.nodup_cons] at n
    have e' : (fs.map Prod.fst)[j]? = some f := by simpa using e
    have e2' : (fs.map Prod.snd)[j]? = some v := by simpa using e2
    have ne : f ≠ g := fun z => n.1 (z ▸ List.mem_of_getElem? e')
    rw [List.lookup_cons]
    have b : (f == g) = false := by simp [ne]
    rw [b]
    exact lookup_at n.2 e' e2'
theorem fldD_exc {x : D} {f : Str} {e : Xc} (h : fldD T.fi x f = .exc e) : False := by
  unfold fldD at h
  split at h
  · rcases bind_exc h with h | ⟨_, _, h⟩ <;> exact ofO_exc h
  · cases h
structure FiOk (G : Sg) (T : Tab) : Prop where
  at_ : ∀ c y j, T.fi c y = some j → (G.cf c)[j]? = some y
theorem se_fld {a : Ex} {ea : Expr} {y : Str} {pos : Pos} (P : PX G S T X L W ex) (F : FiOk G T) (ha : PE X ea (tD G T W ex A₀ H₀ a)) (hb : attrOk ea = true) (nm : y ≠ memoF) : PE X (.Attribute ea y pos) (tD G T W ex A₀ H₀ (.fld a y)) := by
  refine PE.of (pe_fldU ha (attr_base hb _ _ _)) fun σ H Q ⟨A, O, ρ, er, h⟩ => ?_
  rw [ev] at h
  refine seq1 er h fun x v H1 _ s1 hv er1 h1 => ?_
  cases e : fldD T.fi x y with
  | stk => rw [e] at h1; exact h1.elim
  | exc z => exact (fldD_exc e).elim
  | ok d =>
    rw [e] at h1
    have h1 : Res G (fr (wi A O (roots a)) H) false H1 d Q := h1
    cases x with
    | obj c ds =>
      obtain ⟨j, e1, e2⟩ := bind_ok (show (R.ofO (T.fi c y)).bind (fun j => R.ofO ds[j]?) = .ok d from e)
      have e1 := F.at_ c y j (ofO_ok e1)
      have e2 := ofO_ok e2
      obtain ⟨k1, k2⟩ := P.cls c y (List.mem_of_getElem? e1)
      have hj : j < ds.length := (List.getElem?_eq_some_iff.mp e2).1
      cases hv with
      | @obj p C dx fs _ _ h0 h1' h2 h3 h4 h5 =>
        obtain ⟨w, e3, hw⟩ := h4.get e2
        have e4 : (fs.map Prod.fst)[j]? = some y := by rw [h3, List.getElem?_take_of_lt hj]; exact e1
        have hn : (fs.map Prod.fst).Nodup := by rw [h3]; exact (P.cfN c).sublist (List.take_sublist _ _)
        subst h2
        exact ⟨p, _, dx, fs, w, rfl, .inl h1', k1, k2, lookup_at hn e4 e3, h1.here hw⟩
      | @bok p C dx fs _ _ h0 h0' h1' h2' hne h2 h3 hc h4 =>
        subst hc h2
        obtain ⟨w, e3, hw⟩ := h4.get e2
        have hn : (fs.map Prod.fst).Nodup := by
          have z := P.cfN 0
          rw [← h3] at z
          exact (List.nodup_append.mp z).1
        have hl : (fs.map Prod.fst).length = (fs.map Prod.snd).length := by rw [List.length_map, List.length_map]
        rw [← h3] at e1
        by_cases hjl : j < (fs.map Prod.fst).length
        · rw [List.getElem?_append_left hjl] at e1
          rw [List.getElem?_append_left (by rw [← hl]; exact hjl)] at e3
          exact ⟨p, _, dx, fs, w, rfl, .inr ⟨⟨_, h1', h2'⟩, hne, nm⟩, k1, k2, lookup_at hn e1 e3, h1.here hw⟩
        · rw [List.getElem?_append_right (by omega)] at e1
          have z := List.mem_of_getElem? e1
          rw [List.mem_singleton] at z
          exact absurd z nm
    | _ => cases e
/-! ### calls -/
theorem outE {F : List D → R D} {A : Addr → Prop} {B : Addr → Prop} {σ : L2.St} {H : Hp} {vs : List V} {ds : List D} {Q : VK} (hv : HasL G A H vs ds) (hA : ∀ q, A q → fr B H q) (h : outD G W B σ false H (F ds) Q) : fnSp G F vs H Q (WE W σ) := by
  refine ⟨A, ds, hv, ?_⟩
  cases e : F ds with
  | stk => rw [e] at h; exact h
  | exc x => rw [e] at h; exact h
  | ok d =>
    rw [e] at h
    exact fun v H' s hv => h v H' s (hv.mono (fun q z => z.elim (fun z => hA q z) .inr) (Same.refl _)) fun e => absurd e Bool.false_ne_true
theorem se_call {g : Nat} {es : Exs} {x : Str} {e : Expr} {xs : List Expr} {p pos : Pos} (P : PX G S T X L W ex) (hc : L.cm = true) (hf : S.fname[g]? = some (some x)) (hg : Gl X x) (hd : (x == ("__debug__" : Str)) = false) (hs : noStars (e :: xs) = true) (ha : PA X (e :: xs) (tDs G T W ex A₀ H₀ es)) :
    PE X (.Call (.Name x p) (e :: xs) [] pos) (tD G T W ex A₀ H₀ (.call g es)) := by
  obtain ⟨fa, fd, ps, k, F, r, hm, hk, hb⟩ := P.fns hc g x hf
  obtain ⟨n1, n2⟩ := bb hs
  refine PE.of (pe_callS F r hg hm hk hb (fun σ => passAt P.tk σ) ha hd (star_no n1 xs _) (stars_no n2 _ _)) fun σ H Q ⟨A, O, ρ, er, h⟩ => ?_
  rw [ev] at h
  refine seqL er h fun ds vs H1 _ s1 hv er1 h1 => ?_
  exact outE hv (fun q z => .inl z) h1
/-- a def that raises nothing, where an exception is handled -/
theorem se_callQ {g : Nat} {es : Exs} {x : Str} {e : Expr} {xs : List Expr} {p pos : Pos} (P : PX G S T X L W ex) (hc : L.cm = false) (hq : g ∈ S.quiet) (hf : S.fname[g]? = some (some x)) (hg : Gl X x) (hd : (x == ("__debug__" : Str)) = false) (hs : noStars (e :: xs) = true) (ha : PA X (e :: xs) (tDs G T W ex A₀ H₀ es)) :
    PE X (.Call (.Name x p) (e :: xs) [] pos) (tD G T W ex A₀ H₀ (.callQ g es)) := by
  obtain ⟨fa, fd, ps, k, F, r, hm, hk, hb⟩ := P.qf g x hq hf
  obtain ⟨n1, n2⟩ := bb hs
  refine PE.of (pe_callP F r (P.pin hc) hg hm hk hb (fun σ => passAt P.tk σ) ha hd (star_no n1 xs _) (stars_no n2 _ _)) fun σ H Q ⟨A, O, ρ, er, h⟩ => ?_
  rw [ev] at h
  refine seqL er h fun ds vs H1 _ s1 hv er1 h1 => ?_
  exact outE (F := fun ds => noExc (T.fn g ds)) hv (fun q z => .inl z) h1
theorem argsO {A : Addr → Prop} {H : Hp} : ∀ {ds : List D} {vs : List V}, HasL G A H vs ds → ds.all argO = true → HasL G (fun _ => False) H vs ds
  | [], _, h, _ => by cases h; exact .nil
  | d :: ds, _, h, c => by
    cases h with
    | cons h1 h2 =>
      rw [List.all_cons] at c
      obtain ⟨c1, c2⟩ := bb c
      refine .cons ?_ (argsO h2 c2)
      cases d with
      | scr xs =>
        cases h1 with
        | scr k1 k2 => exact .scr k1 (HasL.froz c1 k2)
      | _ => exact Has.froz c1 h1
/-- a new list that a def returns -/
theorem se_callO {g : Nat} {es : Exs} {x : Str} {e : Expr} {xs : List Expr} {p pos : Pos} (P : PX G S T X L W ex) (hc : L.cm = true) (hf : S.fname[g]? = some (some x)) (hg : Gl X x) (hd : (x == ("__debug__" : Str)) = false) (hs : noStars (e :: xs) = true) (ha : PA X (e :: xs) (tDs G T W ex A₀ H₀ es)) :
    PE X (.Call (.Name x p) (e :: xs) [] pos) (tD G T W ex A₀ H₀ (.callO g es)) := by
  obtain ⟨fa, fd, ps, k, F, r, hm, hk, hb⟩ := P.fns hc g x hf
  obtain ⟨n1, n2⟩ := bb hs
  refine PE.of (pe_callS F r hg hm hk hb (fun σ => passAt P.tk σ) ha hd (star_no n1 xs _) (stars_no n2 _ _)) fun σ H Q ⟨A, O, ρ, er, h⟩ => ?_
  rw [ev] at h
  refine seqL er h fun ds vs H1 _ s1 hv er1 h1 => ?_
  cases c : ds.all argO with
  | false => rw [c] at h1; exact h1.elim
  | true =>
    rw [c] at h1
    refine ⟨fun _ => False, ds, argsO hv c, ?_⟩
    cases ef : T.fn g ds with
    | stk => rw [ef] at h1; exact h1.elim
    | exc z => rw [ef] at h1; exact h1
    | ok d =>
      rw [ef] at h1
      cases d with
      | lst es =>
        cases cf : frozs es with
        | false =>
          have h1 : outD G W _ σ true H1 (guardR (frozs es) (.ok (.lst es))) Q := h1
          rw [cf] at h1
          exact h1.elim
        | true =>
          have h1 : outD G W _ σ true H1 (guardR (frozs es) (.ok (.lst es))) Q := h1
          rw [cf] at h1
          intro v H' s hv'
          cases hv' with
          | lst k0 k1 k2 =>
            have k0 : H1 _ = none := k0.elim (fun z => z.elim) id
            exact h1 _ _ s (.lst (.inr k0) k1 (HasL.froz cf k2)) fun _ => ⟨_, _, rfl, k0, k1, HasL.froz cf k2⟩
      | _ => exact h1.elim
theorem se_call0 {g : Nat} {x : Str} {p pos : Pos} (P : PX G S T X L W ex) (hc : L.cm = true) (hf : S.fname[g]? = some (some x)) (hg : Gl X x) (hd : (x == ("__debug__" : Str)) = false) :
    PE X (.Call (.Name x p) [] [] pos) (tD G T W ex A₀ H₀ (.call g .nil)) := by
  obtain ⟨fa, fd, ps, k, F, r, hm, hk, hb⟩ := P.fns hc g x hf
  refine ⟨fun pins s σ H Q I ⟨A, O, ρ, er, h⟩ => ?_⟩
  rw [ev] at h
  refine wpAny_Call_Name_kw (ld_glob I hg hm ?_ hd)
  refine PySem.W.callWith_K0 I.kIn hk (run_fnS (us := []) F r hb (passAt P.tk σ) I .nil ?_)
  rw [evs] at h
  exact outE (A := A) .nil (fun q z => .inl (.inl z)) h
/-- a new instance -/
theorem run_makeS {CX : CXT} {k : Nat} {f C : Addr} {fd : FuncData} {ps : List Str} {sp : Sp} {E : XK} {pins : List (Addr × Obj)} {σ : L2.St} {H : Hp} {s : Shared} {Q : VK} {us : List Value} {vs : List V} (M : Mk X.K C f) (F : FnOk X.prog X.w X.K X.mg X.base CX k f fd ps sp) (hr : Room (k + 1) X.A) (hb : Binds X.K fd ps [])
    (hx : ∀ (H : Hp) (s : Shared) (e : Value) (s' : Shared), L2.Inv X pins σ H s → CX X.stack H s E e s' → X.xe e s') (I : L2.Inv X pins σ H s) (r : Vals vs us)
    (h : ∀ x dx, H x = none → H dx = none → dx ≠ x → sp (.ref x :: vs) (upd (upd H dx (.own x)) x (.ins C dx [])) (fun v H2 => v = .non ∧ Q (.ref x) H2) E) :
    wpAny (model X.prog X.w) X.A (call (.ref C) us) (EP X pins σ Q) X.xe s := by
  have hq := h (s.heap.objs.size + 1) s.heap.objs.size (I.hok.fresh (Nat.le_succ _)) (I.hok.fresh (Nat.le_refl _)) (Nat.ne_of_lt (Nat.lt_succ_self _))
  have I2 := Inv.made (C := C) I
  have r2 : Vals (V.ref (s.heap.objs.size + 1) :: vs) (Value.ref (s.heap.objs.size + 1) :: us) := .cons rfl r
  have hl : (Value.ref (s.heap.objs.size + 1) :: us).length = ps.length := by
    have e := r2.length
    rw [F.len _ _ _ _ hq] at e
    exact e.symm
  have b := hb _ (Value.ref (s.heap.objs.size + 1) :: us) I2.kIn (by rw [List.append_nil]; exact hl)
  rw [List.append_nil] at b
  refine wpAny_call (make_map (f := f) I.kIn M.makes M.init (beq_iff_eq.mp M.fn) (codeAny_mono (F.run _ X.stack _ _ ⟨Value.ref (s.heap.objs.size + 1) :: us, []⟩ (Value.ref (s.heap.objs.size + 1) :: us) _ _ E (hr.make C us [])
    (I2.env0.make C us []) b r2 hq) fun r s' hq' => ?_))
  cases r with
  | error e => exact hx _ _ e s' I2 hq'
  | ok fl =>
    cases fl with
    | ret u =>
      obtain ⟨v, H', I3, rv, ev, q3⟩ := I2.after hq'
      subst ev
      exact ⟨rv, ⟨V.ref (s.heap.objs.size + 1), H', I3, rfl, q3⟩⟩
    | next => exact False.elim hq'
    | brk => exact False.elim hq'
    | cont => exact False.elim hq'
theorem outM {c : Nat} {F : List D → R D} {A : Addr → Prop} {B : Addr → Prop} {σ : L2.St} {H : Hp} {vs : List V} {ds : List D} {Q : VK} (hv : HasL G A H vs ds) (hA : ∀ q, A q → fr B H q) (h : outD G W B σ false H (F ds) Q) {x dx : Addr} (hx : H x = none) (hdx : H dx = none) (ne : dx ≠ x) :
    mkSp G c F (.ref x :: vs) (upd (upd H dx (.own x)) x (.ins (G.ca c) dx [])) (fun v H2 => v = .non ∧ Q (.ref x) H2) (WE W σ) := by
  refine ⟨A, ds, x, dx, vs, H, rfl, hx, hdx, ne, rfl, hv, ?_⟩
  cases e : F ds with
  | stk => rw [e] at h; exact h
  | exc x => rw [e] at h; exact h
  | ok d =>
    rw [e] at h
    exact fun H' s hv => ⟨rfl, h _ H' s (hv.mono (fun q z => z.elim (fun z => hA q z) .inr) (Same.refl _)) fun e => absurd e Bool.false_ne_true⟩
theorem se_mk {c g : Nat} {es : Exs} {x : Str} {e : Expr} {xs : List Expr} {p pos : Pos} (P : PX G S T X L W ex) (hcm : L.cm = true) (hc : S.cname[c]? = some x) (hi : T.init g = some c) (hg : Gl X x) (hd : (x == ("__debug__" : Str)) = false) (hs : noStars (e :: xs) = true) (ha : PA X (e :: xs) (tDs G T W ex A₀ H₀ es)) :
    PE X (.Call (.Name x p) (e :: xs) [] pos) (tD G T W ex A₀ H₀ (.mk c g es)) := by
  obtain ⟨fI, fd, ps, k, M, F, r, hm, hb⟩ := P.mks hcm c x g hc hi
  obtain ⟨n1, n2⟩ := bb hs
  refine ⟨fun pins s σ H Q I ⟨A, O, ρ, er, h⟩ => ?_⟩
  rw [ev] at h
  have h2 := seqL (R := fun vs H1 => ∃ (ds : List D) (A B : Addr → Prop), HasL G A H1 vs ds ∧ (∀ q, A q → fr B H1 q) ∧ outD G W B σ false H1 (T.fn g ds) Q) er h fun ds vs H1 _ s1 hv er1 h1 => ⟨ds, _, _, hv, fun q z => .inl z, h1⟩
  refine wpAny_Call_Name_kw (ld_glob I hg hm ?_ hd)
  refine PySem.W.callWith_K (h₀ := X.base) I.ok.mod.kin M.kp (thn (ha.run pos pins s σ H _ I h2) fun us s1 ⟨vs, H1, I1, r1, ds, A1, B1, hv, hA, q⟩ => ⟨I1.kIn, ?_⟩) (star_no n1 xs _) (stars_no n2 _ _)
  exact run_makeS M F r hb (fun H s e s' I c => passAt P.tk σ pins H s e s' I c) I1 r1 fun y dy hy hdy ne => outM hv hA q hy hdy ne
/-! ### builtins -/
def bltN : Blt → Str
  | .len => "len"
  | .tupleOf => "tuple"
  | .listOf => "list"
  | .abs => "abs"
  | .intOf => "int"
  | .strOf => "str"
  | .all => "all"
  | .any => "any"
  | .sum => "sum"
  | .min1 => "min"
  | .max1 => "max"
  | .min2 => "min"
  | .max2 => "max"
  | .sorted => "sorted"
theorem bi_froz {b : Blt} {ds : List D} {d : D} (hs : b.scal = true) (e : biD b ds = .ok d) : froz d = true := by
  unfold biD at e
  split at e <;> first
    | exact absurd hs Bool.false_ne_true
    | (cases e; rfl)
    | (obtain ⟨_, _, e⟩ := bind_ok e; cases e; rfl)
    | (have e := (guardR_ok e).2; cases e; rfl)
    | cases e
theorem bi_new {b : Blt} (hs : b.scal = true) : b.new = false := by
  cases b <;> first
    | rfl
    | exact absurd hs Bool.false_ne_true
theorem bi_out {b : Blt} {A B : Addr → Prop} {σ : L2.St} {H : Hp} {vs : List V} {ds : List D} {Q : VK} (hv : HasL G A H vs ds) (hA : b.scal = true ∨ ∀ q, A q → fr B H q) (h : outD G W B σ b.new H (biD b ds) Q) : rBi G b vs H Q := by
  cases e : biD b ds with
  | stk => rw [e] at h; exact h.elim
  | exc x => exact (biD_exc e).elim
  | ok d =>
    rw [e] at h
    refine ⟨A, ds, d, hv, e, ?_⟩
    rcases hA with hs | hA
    · have sd := bi_froz hs e
      intro v H' s hv' o
      exact h v H' s (Has.froz sd hv') fun e => absurd e (by rw [bi_new hs]; exact Bool.false_ne_true)
    · exact Res.up (Same.refl H) hA h
theorem se_bi {b : Blt} {es : Exs} {e : Expr} {xs : List Expr} {p pos : Pos} (P : PX G S T X L W ex) (hc : L.cm = true) (hf : bltN b ∈ S.free) (hg : Gl X (bltN b)) (hs : noStars (e :: xs) = true) (ha : PA X (e :: xs) (tDs G T W ex A₀ H₀ es)) :
    PE X (.Call (.Name (bltN b) p) (e :: xs) [] pos) (tD G T W ex A₀ H₀ (.bi b es)) := by
  obtain ⟨n1, n2⟩ := bb hs
  have hm := P.free _ hf
  have step : ∀ σ H Q, tD G T W ex A₀ H₀ (.bi b es) σ H Q → tCB (rBi G b) (tDs G T W ex A₀ H₀ es) σ H Q := fun σ H Q ⟨A, O, ρ, er, h⟩ => by
    rw [ev] at h
    refine seqL er h fun ds vs H1 _ s1 hv er1 h1 => ?_
    cases hb : b.scal with
    | true => exact bi_out hv (.inl hb) h1
    | false =>
      refine bi_out hv (.inr fun q z => .inl ?_) h1
      show fr (wi A O (roots (.bi b es))) H q
      have e : roots (.bi b es) = rootsS es := by rw [roots, hb]
      rw [e]
      exact z
  have C := call_bi P.hG (P.calm hc) P.un b
  cases b with
  | len => exact PE.of (pe_callB C hg hm boot_len ha (by decide) (by decide) (star_no n1 xs _) (stars_no n2 _ _)) step
  | tupleOf => exact PE.of (pe_callTy C hg hm boot_tuple ha (by decide) (by decide) (star_no n1 xs _) (stars_no n2 _ _)) step
  | listOf => exact PE.of (pe_callTy C hg hm boot_list ha (by decide) (by decide) (star_no n1 xs _) (stars_no n2 _ _)) step
  | abs => exact PE.of (pe_callB C hg hm boot_abs ha (by decide) (by decide) (star_no n1 xs _) (stars_no n2 _ _)) step
  | intOf => exact PE.of (pe_callTy C hg hm boot_int ha (by decide) (by decide) (star_no n1 xs _) (stars_no n2 _ _)) step
  | strOf => exact PE.of (pe_callTy C hg hm boot_str ha (by decide) (by decide) (star_no n1 xs _) (stars_no n2 _ _)) step
  | all => exact PE.of (pe_callB C hg hm boot_all ha (by decide) (by decide) (star_no n1 xs _) (stars_no n2 _ _)) step
  | any => exact PE.of (pe_callB C hg hm boot_any ha (by decide) (by decide) (star_no n1 xs _) (stars_no n2 _ _)) step
  | sum => exact PE.of (pe_callB C hg hm boot_sum ha (by decide) (by decide) (star_no n1 xs _) (stars_no n2 _ _)) step
  | min1 => exact PE.of (pe_callB C hg hm boot_min ha (by decide) (by decide) (star_no n1 xs _) (stars_no n2 _ _)) step
  | max1 => exact PE.of (pe_callB C hg hm boot_max ha (by decide) (by decide) (star_no n1 xs _) (stars_no n2 _ _)) step
  | min2 => exact PE.of (pe_callB C hg hm boot_min ha (by decide) (by decide) (star_no n1 xs _) (stars_no n2 _ _)) step
  | max2 => exact PE.of (pe_callB C hg hm boot_max ha (by decide) (by decide) (star_no n1 xs _) (stars_no n2 _ _)) step
  | sorted => exact PE.of (pe_callB C hg hm boot_sorted ha (by decide) (by decide) (star_no n1 xs _) (stars_no n2 _ _)) step
/-! isinstance -/
def isNm : IsT → Str
  | .int => "int"
  | .bool => "bool"
  | .str => "str"
  | .tuple => "tuple"
  | .list => "list"
  | .dict => "dict"
theorem pe_ty {t : IsT} {p : Pos} (P : PX G S T X L W ex) (hf : isNm t ∈ S.free) (hg : Gl X (isNm t)) : PE X (.Name (isNm t) p) (tC (isV t)) := by
  have hm := P.free _ hf
  cases t with
  | int => exact pe_bltn hg hm boot_int rfl
  | bool => exact pe_bltn hg hm boot_bool rfl
  | str => exact pe_bltn hg hm boot_str rfl
  | tuple => exact pe_bltn hg hm boot_tuple rfl
  | list => exact pe_bltn hg hm boot_list rfl
  | dict => exact pe_bltn hg hm boot_dict rfl
theorem isD_bl {x d : D} {t : IsT} (e : isD x t = .ok d) : ∃ b, d = .bl b := by
  unfold isD at e
  split at e <;> first
    | exact ⟨_, (ok_inj e).symm⟩
    | cases e
theorem se_isi {a : Ex} {t : IsT} {ea : Expr} {p p2 pos : Pos} (P : PX G S T X L W ex) (hf : isNm t ∈ S.free) (hg : Gl X (isNm t)) (hf2 : ("isinstance" : Str) ∈ S.free) (hg2 : Gl X "isinstance") (hs : notStar ea = true) (ha : PE X ea (tD G T W ex A₀ H₀ a)) :
    PE X (.Call (.Name "isinstance" p) [ea, .Name (isNm t) p2] [] pos) (tD G T W ex A₀ H₀ (.isi a t)) := by
  refine PE.of (pe_callB (call_isA (G := G) t) hg2 (P.free _ hf2) boot_isinstance (pa_cons ha (pa_cons (pe_ty P hf hg) pa_nil) (star_no hs _ _)) (by decide) (by decide) (star_no hs _ _)) fun σ H Q ⟨A, O, ρ, er, h⟩ => ?_
  rw [ev] at h
  refine seq1 er h fun x v H1 _ s1 hv er1 h1 => ?_
  cases e : isD x t with
  | stk => rw [e] at h1; exact h1.elim
  | exc z => exact (isD_exc e).elim
  | ok d =>
    rw [e] at h1
    obtain ⟨b, rfl⟩ := isD_bl e
    exact ⟨_, v, x, b, rfl, hv, e, Res.bl h1⟩
end
end PD
end

section
set_option Elab.async false
set_option linter.all false
set_option maxRecDepth 100000
set_option maxHeartbeats 4000000
/-! PD, part 10: targets, what a loop walks, comprehensions. -/
namespace PD
open PySem PySem.Spec PyProof.Rows L2
mutual
def Tg.ns : Tg → List Nat
  | .n i => [i]
  | .t gs => gs.ns
def Tgs.ns : Tgs → List Nat
  | .nil => []
  | .cons g r => g.ns ++ r.ns
end
def Tgs.len : Tgs → Nat
  | .nil => 0
  | .cons _ r => r.len + 1
mutual
theorem bindT_exc : ∀ (g : Tg) {d : D} {ρ : Env} {x : Xc}, bindT g d ρ = .exc x → False
  | .n i, d, ρ, x, h => by
    rw [bindT] at h
    have h := (guardR_exc h).2
    cases h
  | .t gs, d, ρ, x, h => by
    cases d with
    | tup ds => rw [bindT] at h; exact bindTs_exc gs h
    | _ => cases h
theorem bindTs_exc : ∀ (gs : Tgs) {ds : List D} {ρ : Env} {x : Xc}, bindTs gs ds ρ = .exc x → False
  | .nil, [], _, _, h => by cases h
  | .nil, _ :: _, _, _, h => by cases h
  | .cons _ _, [], _, _, h => by cases h
  | .cons g r, d :: ds, ρ, x, h => by
    rw [bindTs] at h
    rcases bind_exc h with h | ⟨ρ1, _, h⟩
    · exact bindT_exc g h
    · exact bindTs_exc r h
end
section
variable {G : Sg} {S : Sx} {T : Tab} {X : Cx} {L : Lo} {W : WX} {ex : ExI} {A₀ : Addr → Prop} {H₀ : Hp}
/-- a target's reading -/
def tG (G : Sg) (ex : ExI) (A₀ : Addr → Prop) (H₀ : Hp) (g : Tg) : TG := fun v σ H Q => ∃ A O ρ d, ER G ex A₀ H₀ A O σ H ρ ∧ Has G A H v d ∧ (match bindT g d ρ with
  | .ok ρ' => ∀ O' σ', ER G ex A₀ H₀ A O' σ' H ρ' → (∀ vs, (∀ j ∈ g.ns, j ∈ vs) → L2.wipe σ' vs = L2.wipe σ vs) → (∀ j k p, O' j k p → O j k p) → Q σ' H
  | _ => False)
theorem PG.of {e : Expr} {t t' : TG} (h : PG X e t) (w : ∀ v σ H Q, t' v σ H Q → t v σ H Q) : PG X e t' := ⟨fun pins s σ H v u Q I r q => h.run pins s σ H v u Q I r (w v σ H Q q)⟩
theorem wipe_get (σ : L2.St) (j : Nat) : ∀ vs : List Nat, (L2.wipe σ vs)[j]? = if j ∈ vs then (σ[j]?).map (fun _ => none) else σ[j]?
  | [] => by simp [L2.wipe]
  | i :: is => by
    rw [L2.wipe]
    have ih := wipe_get σ j is
    by_cases h : i = j
    · subst h
      by_cases hl : i < σ.length
      · have hl2 : i < (L2.wipe σ is).length := by rw [wipe_length]; exact hl
        rw [List.getElem?_set_self hl2, if_pos List.mem_cons_self, List.getElem?_eq_getElem hl]
        rfl
      · rw [List.getElem?_eq_none (by rw [List.length_set, wipe_length]; omega), List.getElem?_eq_none (by omega)]
        simp
    · rw [List.getElem?_set_ne h, ih]
      have hj : j ≠ i := fun z => h z.symm
      by_cases hm : j ∈ is
      · rw [if_pos hm, if_pos (List.mem_cons_of_mem _ hm)]
      · rw [if_neg hm, if_neg (by simp [hm, hj])]
theorem wipe_set {σ : L2.St} {i : Nat} {o : Option V} {vs : List Nat} (h : i ∈ vs) : L2.wipe (σ.set i o) vs = L2.wipe σ vs := by
  apply List.ext_getElem?
  intro j
  rw [wipe_get, wipe_get]
  by_cases hj : i = j
  · subst hj
    rw [if_pos h, if_pos h]
    by_cases hl : i < σ.length
    · rw [List.getElem?_set_self hl, List.getElem?_eq_getElem hl]
      rfl
    · rw [List.getElem?_eq_none (by rw [List.length_set]; omega), List.getElem?_eq_none (by omega)]
  · rw [List.getElem?_set_ne hj]
theorem sg_n {i : Nat} {x : Str} {pos : Pos} (P : PX G S T X L W ex) (hi : X.N[i]? = some x) (hx : Loc X.env.scope x) (hf : X.fn x = true ∨ X.env.scope.names.lookup x = some .local) : PG X (.Name x pos) (tG G ex A₀ H₀ (.n i)) := by
  refine PG.of (pg_name (by rw [P.nm]; exact P.nd) hi hx hf) fun v σ H Q ⟨A, O, ρ, d, er, hv, h⟩ => ?_
  rw [bindT] at h
  cases c : decide (i < ρ.length) with
  | false => rw [c] at h; exact h.elim
  | true =>
    rw [c] at h
    refine h _ _ (er.setSh hv) (fun vs hvs => wipe_set (hvs i List.mem_cons_self)) fun j k p z => ?_
    rcases z with ⟨_, z⟩ | ⟨_, z⟩
    · exact z.elim
    · exact z
/-- the parts of a tuple, one behind another -/
def tGs (G : Sg) (ex : ExI) (A₀ : Addr → Prop) (H₀ : Hp) (gs : Tgs) : TGs := fun vs σ H Q => ∃ A O ρ ds, ER G ex A₀ H₀ A O σ H ρ ∧ HasL G A H vs ds ∧ (match bindTs gs ds ρ with
  | .ok ρ' => ∀ O' σ', ER G ex A₀ H₀ A O' σ' H ρ' → (∀ vs, (∀ j ∈ gs.ns, j ∈ vs) → L2.wipe σ' vs = L2.wipe σ vs) → (∀ j k p, O' j k p → O j k p) → Q σ' H
  | _ => False)
theorem PGs.of {e : List Expr} {t t' : TGs} (h : PGs X e t) (w : ∀ v σ H Q, t' v σ H Q → t v σ H Q) : PGs X e t' := ⟨fun pins s σ H v u Q I r q => h.run pins s σ H v u Q I r (w v σ H Q q)⟩
theorem sgs_nil : PGs X [] (tGs G ex A₀ H₀ .nil) := PGs.of pgs_nil fun vs σ H Q ⟨A, O, ρ, ds, er, hv, h⟩ => by
  cases ds with
  | nil =>
    cases hv
    exact ⟨rfl, h O σ er (fun _ _ => rfl) fun _ _ _ z => z⟩
  | cons d ds => exact h.elim
theorem asg_one {e : Expr} (he : notStar e = true) (es : List Expr) (env : PySem.Env) : (assignEach (e :: es) env).map (·.2) = assign e env :: (assignEach es env).map (·.2) := by
  cases e <;> first
    | rfl
    | cases he
theorem asg_len : ∀ {es : List Expr} (env : PySem.Env), (assignEach es env).length = es.length
  | [], _ => rfl
  | e :: es, env => by
    have ih := asg_len (es := es) env
    cases e <;> simp [assignEach, ih]
theorem asg_star : ∀ {es : List Expr}, noStars es = true → ∀ env : PySem.Env, (assignEach es env).findIdx? (·.1) = none
  | [], _, _ => rfl
  | e :: es, h, env => by
    obtain ⟨h1, h2⟩ := bb h
    have ih := asg_star h2 env
    cases e <;> first
      | exact absurd h1 Bool.false_ne_true
      | (simp [assignEach, List.findIdx?_cons, ih])
theorem sgs_cons {g : Tg} {gs : Tgs} {e : Expr} {es : List Expr} (h1 : PG X e (tG G ex A₀ H₀ g)) (h2 : PGs X es (tGs G ex A₀ H₀ gs)) (he : notStar e = true) : PGs X (e :: es) (tGs G ex A₀ H₀ (.cons g gs)) := by
  refine PGs.of (pgs_cons h1 h2 (asg_one he es _)) fun vs σ H Q ⟨A, O, ρ, ds, er, hv, h⟩ => ?_
  cases ds with
  | nil => exact h.elim
  | cons d ds =>
    cases hv with
    | @cons v vs _ _ k1 k2 =>
      refine ⟨v, vs, rfl, A, O, ρ, d, er, k1, ?_⟩
      rw [bindTs] at h
      cases e : bindT g d ρ with
      | stk => rw [e] at h; exact h
      | exc x => rw [e] at h; exact h
      | ok ρ' =>
        rw [e] at h
        have h : (match bindTs gs ds ρ' with
          | .ok ρ' => ∀ O' σ', ER G ex A₀ H₀ A O' σ' H ρ' → (∀ vs, (∀ j ∈ (Tgs.cons g gs).ns, j ∈ vs) → L2.wipe σ' vs = L2.wipe σ vs) → (∀ j k p, O' j k p → O j k p) → Q σ' H
          | _ => False) := h
        refine fun O' σ' er' w' o' => ⟨A, O', ρ', ds, er', k2, ?_⟩
        cases e2 : bindTs gs ds ρ' with
        | stk => rw [e2] at h; exact h
        | exc x => rw [e2] at h; exact h
        | ok ρ2 =>
          rw [e2] at h
          exact fun O2 σ2 er2 w2 o2 => h O2 σ2 er2 (fun vs hvs => (w2 vs fun j hj => hvs j (List.mem_append_right _ hj)).trans (w' vs fun j hj => hvs j (List.mem_append_left _ hj))) fun j k p z => o' j k p (o2 j k p z)
theorem bindTs_len : ∀ {gs : Tgs} {ds : List D} {ρ ρ' : Env}, bindTs gs ds ρ = .ok ρ' → ds.length = gs.len
  | .nil, [], _, _, _ => rfl
  | .nil, _ :: _, _, _, h => by cases h
  | .cons _ _, [], _, _, h => by cases h
  | .cons g r, d :: ds, ρ, ρ', h => by
    rw [bindTs] at h
    obtain ⟨ρ1, _, h⟩ := bind_ok h
    rw [List.length_cons, bindTs_len h]
    rfl
theorem sg_tup {gs : Tgs} {es : List Expr} {n : Nat} {pos : Pos} (P : PX G S T X L W ex) (hc : L.cm = true) (hs : PGs X es (tGs G ex A₀ H₀ gs)) (hn : gs.len = es.length) (ns : noStars es = true) : PG X (.Tuple es n pos) (tG G ex A₀ H₀ (.t gs)) := by
  refine PG.of (pg_tup (n := gs.len) (P.calm hc) hs (by rw [asg_len, hn]) (asg_star ns _)) fun v σ H Q ⟨A, O, ρ, d, er, hv, h⟩ => ?_
  cases hv with
  | @tup a xs ds h1 h2 =>
    refine ⟨_, _, rfl, .of h1, ?_, A, O, ρ, ds, er, h2, ?_⟩
    · rw [bindT] at h
      cases e : bindTs gs ds ρ with
      | stk => rw [e] at h; exact h.elim
      | exc x => rw [e] at h; exact h.elim
      | ok ρ' => rw [h2.length]; exact bindTs_len e
    · rw [bindT] at h
      exact h
  | _ => exact h.elim
end
end PD
end

section
set_option Elab.async false
set_option linter.all false
set_option maxRecDepth 100000
set_option maxHeartbeats 4000000
/-! PD, part 11: what a loop walks, comprehensions. -/
namespace PD
open PySem PySem.Spec PyProof.Rows L2
abbrev HIt := L2.It
/-- the walk gives these data, one by one, as long as ps stand -/
structure Its (G : Sg) (J : HIt) (ds : List D) (ps : List (V × D)) : Prop where
  go : ∀ A H i d, (∀ p ∈ ps, Has G A H p.1 p.2) → ds[i]? = some d → J.go i H ∧ ∀ x H', J.yld i H x H' → Same H H' ∧ Has G (fr A H) H' x d
  stop : ∀ A H i, (∀ p ∈ ps, Has G A H p.1 p.2) → ds.length ≤ i → J.stop i H
def outI (G : Sg) (W : WX) (A : Addr → Prop) (σ : L2.St) (H : Hp) (r : R (List D)) (Q : HIt → Hp → Prop) : Prop := match r with
  | .ok ds => ∀ J H' ps, Same H H' → Its G J ds ps → (∀ p ∈ ps, Has G (fr A H) H' p.1 p.2) → Q J H'
  | .exc x => ∀ cls dx H', Same H H' → XR G H' x cls dx → W cls dx σ H'
  | .stk => False
section
variable (G : Sg) (T : Tab) (W : WX) (ex : ExI) (A₀ : Addr → Prop) (H₀ : Hp)
def tI (it : It) : TI := fun σ H Q => ∃ A O ρ, ER G ex A₀ H₀ A O σ H ρ ∧ outI G W (wi A O (rootsI it)) σ H (evIt T it ρ) Q
end
section
variable {G : Sg} {S : Sx} {T : Tab} {X : Cx} {L : Lo} {W : WX} {ex : ExI} {A₀ : Addr → Prop} {H₀ : Hp}
theorem PI.of {tg e : Expr} {t t' : TI} (h : PI X tg e t) (w : ∀ σ H Q, t' σ H Q → t σ H Q) : PI X tg e t' := ⟨fun pins s σ H Q I q => h.run pins s σ H Q I (w σ H Q q)⟩
theorem its_lst {K : PySem.W.Frag} {p : Addr} {ds : List D} {J : HIt} (hJ : J = Itl K p) (d : D) (h : ∀ A H, Has G A H (.ref p) d → ∃ xs, SqL K H p xs ∧ HasL G A H xs ds) : Its G J ds [(.ref p, d)] where
  go := fun A H i e hp he => by
    obtain ⟨xs, h1, h3⟩ := h A H (hp _ List.mem_cons_self)
    obtain ⟨v, e1, e2⟩ := h3.get he
    subst hJ
    refine ⟨⟨xs, v, h1, e1⟩, fun x H' ⟨eH, hx⟩ => ?_⟩
    have := hx xs h1
    rw [e1] at this
    cases this
    subst eH
    exact ⟨Same.refl _, e2.here⟩
  stop := fun A H i hp he => by
    obtain ⟨xs, h1, h3⟩ := h A H (hp _ List.mem_cons_self)
    subst hJ
    exact ⟨xs, h1, by rw [h3.length]; exact he⟩
theorem its_tup {K : PySem.W.Frag} {p : Addr} {ds : List D} {J : HIt} (hJ : J = Itt K p) : Its G J ds [(.ref p, .tup ds)] where
  go := fun A H i e hp he => by
    have h := hp _ List.mem_cons_self
    cases h with
    | tup h1 h3 =>
      obtain ⟨v, e1, e2⟩ := h3.get he
      subst hJ
      refine ⟨⟨_, v, .of h1, e1⟩, fun x H' ⟨eH, hx⟩ => ?_⟩
      have := hx _ (.of h1)
      rw [e1] at this
      cases this
      subst eH
      exact ⟨Same.refl _, e2.here⟩
  stop := fun A H i hp he => by
    have h := hp _ List.mem_cons_self
    cases h with
    | tup h1 h3 =>
      subst hJ
      exact ⟨_, .of h1, by rw [h3.length]; exact he⟩
theorem intsD_get : ∀ (n : Nat) (lo : Int) (i : Nat), i < n → (intsD lo n)[i]? = some (.int (lo + i))
  | 0, _, _, h => absurd h (Nat.not_lt_zero _)
  | n + 1, lo, 0, _ => by simp [intsD]
  | n + 1, lo, i + 1, h => by
    rw [intsD, List.getElem?_cons_succ, intsD_get n (lo + 1) i (by omega)]
    congr 2
    omega
theorem intsD_len : ∀ (n : Nat) (lo : Int), (intsD lo n).length = n
  | 0, _ => rfl
  | n + 1, lo => by rw [intsD, List.length_cons, intsD_len n]
theorem its_rng {lo : Int} {n : Nat} : Its G (Itr lo n) (intsD lo n) [] where
  go := fun A H i e _ he => by
    have hi : i < n := by
      have := (List.getElem?_eq_some_iff.mp he).1
      rw [intsD_len] at this
      exact this
    rw [intsD_get n lo i hi] at he
    cases he
    refine ⟨hi, fun x H' ⟨eH, hx⟩ => ?_⟩
    subst eH hx
    exact ⟨Same.refl _, .int _⟩
  stop := fun A H i _ he => by
    rw [intsD_len] at he
    exact he
/-- a list, a tuple, the script -/
def iSeq (K : PySem.W.Frag) (tl : TE) : TI := fun σ H R => tl σ H fun x H1 => ∃ a, x = .ref a ∧ (((∃ xs, SqL K H1 a xs) ∧ R (Itl K a) H1) ∨ ((∃ xs, SqT K H1 a xs) ∧ R (Itt K a) H1))
theorem pi_seq {tg l : Expr} {tl : TE} (hl : PE X l tl) : PI X tg l (iSeq X.K tl) := by
  refine ⟨fun pins s σ H R I h => ?_⟩
  refine thn (hl.run pins s σ H _ I h) fun v s1 ⟨x, H1, I1, r1, q1⟩ => ?_
  obtain ⟨a, e, ⟨⟨xs, hq⟩, q⟩ | ⟨⟨xs, hq⟩, q⟩⟩ := q1
  · subst e
    cases r1
    obtain ⟨its, rv, p, hz⟩ := I1.list hq
    refine wpAny_pyIter_list p.isList ?_
    refine ⟨s1.heap.objs.size, [s1.heap.objs.size], _, _, H1, rfl, I1.kept (t' := s1.toks) fun b o e => Heap.get?_push_of_some _ e, turn_list a _, ⟨_, Heap.get?_push_size _ rfl, rfl, rfl⟩, fun b hb => ?_, q⟩
    have e : b = s1.heap.objs.size := by simpa using hb
    subst e
    exact I1.fpOk (Nat.le_refl _) (I1.hok.fresh (Nat.le_refl _))
  · subst e
    cases r1
    obtain ⟨its, rv, p, hz⟩ := I1.tuple hq
    refine wpAny_pyIter_tuple (show s1.heap.IsTuple a its.toArray from p) ?_
    refine ⟨s1.heap.objs.size, [s1.heap.objs.size], _, _, H1, rfl, I1.kept (t' := s1.toks) fun b o e => Heap.get?_push_of_some _ e, turn_tuple a _, ⟨_, Heap.get?_push_size _ rfl, rfl, rfl⟩, fun b hb => ?_, q⟩
    have e : b = s1.heap.objs.size := by simpa using hb
    subst e
    exact I1.fpOk (Nat.le_refl _) (I1.hok.fresh (Nat.le_refl _))
theorem outDI_exc {A A' : Addr → Prop} {σ : L2.St} {f : Bool} {H H' : Hp} {x : Xc} {Q : HIt → Hp → Prop} {Q' : VK} (s : Same H H') (h : outI G W A σ H (.exc x) Q) : outD G W A' σ f H' (.exc x) Q' := fun cls dx H2 s2 r => h cls dx H2 (same_tr s s2) r
theorem outI_exc {A A' : Addr → Prop} {σ : L2.St} {H H' : Hp} {x : Xc} {Q Q' : HIt → Hp → Prop} (s : Same H H') (h : outI G W A σ H (.exc x) Q) : outI G W A' σ H' (.exc x) Q' := fun cls dx H2 s2 r => h cls dx H2 (same_tr s s2) r
theorem outI_up {A A' : Addr → Prop} {σ : L2.St} {H H' : Hp} {r : R (List D)} {Q : HIt → Hp → Prop} (s : Same H H') (hA : ∀ q, A' q → fr A H q) (h : outI G W A σ H r Q) : outI G W A' σ H' r Q := by
  cases r with
  | ok d => exact fun J H2 ps s2 hv hp => h J H2 ps (same_tr s s2) hv fun p z => (hp p z).mono (fun q z => fr_up s hA z) (Same.refl _)
  | exc x => exact outI_exc s h
  | stk => exact h
theorem seq1I {a : Ex} {A : Addr → Prop} {O : Ow} {σ : L2.St} {H : Hp} {ρ : Env} {g : D → R (List D)} {B : Addr → Prop} {Q : HIt → Hp → Prop} {R : V → Hp → Prop} (er : ER G ex A₀ H₀ A O σ H ρ) (h : outI G W B σ H ((ev T a ρ).bind g) Q)
    (k : ∀ x v H1, ev T a ρ = .ok x → Same H H1 → Has G (fr (wi A O (roots a)) H) H1 v x → ER G ex A₀ H₀ (fr A H) O σ H1 ρ → outI G W (fr B H) σ H1 (g x) Q → R v H1) : tD G T W ex A₀ H₀ a σ H R := by
  refine ⟨A, O, ρ, er, ?_⟩
  cases e : ev T a ρ with
  | stk => rw [e] at h; exact h
  | exc x => rw [e] at h; exact outDI_exc (Same.refl H) h
  | ok x =>
    rw [e] at h
    exact fun v H1 s1 hv _ => k x v H1 e s1 hv (er.go s1) (outI_up s1 (fun _ z => z) h)
theorem si_e {a : Ex} {tg e : Expr} (hG : X.K = G.K) (ha : PE X e (tD G T W ex A₀ H₀ a)) : PI X tg e (tI G T W ex A₀ H₀ (.e a)) := by
  refine PI.of (pi_seq ha) fun σ H Q ⟨A, O, ρ, er, h⟩ => ?_
  rw [evIt] at h
  have h : outI G W (wi A O (roots a)) σ H ((ev T a ρ).bind itemsD) Q := h
  refine seq1I er h fun x v H1 _ s1 hv er1 h1 => ?_
  cases hv with
  | @tup p xs ds k1 k2 =>
    refine ⟨p, rfl, .inr ⟨⟨_, .of k1⟩, ?_⟩⟩
    exact h1 _ H1 [(.ref p, .tup ds)] (Same.refl H1) (its_tup rfl) fun q hq => by
      rw [List.mem_singleton] at hq
      subst hq
      exact .tup k1 (k2.mono (fun _ z => .inl z) (Same.refl _))
  | @lst p xs ds k0 k1 k2 =>
    refine ⟨p, rfl, .inl ⟨⟨_, .of k1⟩, ?_⟩⟩
    exact h1 _ H1 [(.ref p, .lst ds)] (Same.refl H1) (its_lst rfl (.lst ds) fun A H h => by
      cases h with
      | lst j0 j1 j2 => exact ⟨_, .of j1, j2⟩) fun q hq => by
      rw [List.mem_singleton] at hq
      subst hq
      exact .lst (.inl k0) k1 (k2.mono (fun _ z => .inl z) (Same.refl _))
  | @scr p xs ds k1 k2 =>
    refine ⟨p, rfl, .inl ⟨⟨_, k1.sq hG⟩, ?_⟩⟩
    exact h1 _ H1 [(.ref p, .scr ds)] (Same.refl H1) (its_lst rfl (.scr ds) fun A H h => by
      cases h with
      | scr j1 j2 => exact ⟨_, j1.sq hG, j2⟩) fun q hq => by
      rw [List.mem_singleton] at hq
      subst hq
      exact .scr k1 (k2.mono (fun _ z => .inl z) (Same.refl _))
  | _ => exact (show False from h1).elim
theorem smallI_ok {i : Int} (h : smallI i = true) : -(2 ^ 62) ≤ i ∧ i < 2 ^ 62 := ⟨of_decide_eq_true (bb h).1, of_decide_eq_true (bb h).2⟩
theorem si_r1 {a : Ex} {tg e : Expr} {p pos : Pos} (P : PX G S T X L W ex) (hf : ("range" : Str) ∈ S.free) (hg : Gl X "range") (hs : notStar e = true) (ha : PE X e (tD G T W ex A₀ H₀ a)) : PI X tg (.Call (.Name "range" p) [e] [] pos) (tI G T W ex A₀ H₀ (.r1 a)) := by
  refine PI.of (pi_range1 hg (P.free _ hf) (pa_cons ha pa_nil (star_no hs _ _)) (star_no hs _ _)) fun σ H Q ⟨A, O, ρ, er, h⟩ => ?_
  rw [evIt] at h
  refine seq1I er h fun x v H1 _ s1 hv er1 h1 => ?_
  cases hv with
  | int j =>
    have h1 : outI G W _ σ H1 (guardR (smallI j) (.ok (intsD 0 j.toNat))) Q := h1
    cases c : smallI j with
    | false => rw [c] at h1; exact h1.elim
    | true =>
      rw [c] at h1
      obtain ⟨c1, c2⟩ := smallI_ok c
      exact ⟨j, rfl, c1, c2, h1 _ H1 [] (Same.refl H1) its_rng fun q hq => absurd hq (by simp)⟩
  | _ => exact h1.elim
theorem si_r2 {a b : Ex} {tg e e2 : Expr} {p pos : Pos} (P : PX G S T X L W ex) (hf : ("range" : Str) ∈ S.free) (hg : Gl X "range") (hs : notStar e = true) (hs2 : notStar e2 = true) (ha : PE X e (tD G T W ex A₀ H₀ a)) (hb : PE X e2 (tD G T W ex A₀ H₀ b)) :
    PI X tg (.Call (.Name "range" p) [e, e2] [] pos) (tI G T W ex A₀ H₀ (.r2 a b)) := by
  refine PI.of (pi_range2 hg (P.free _ hf) (pa_cons ha (pa_cons hb pa_nil (star_no hs2 _ _)) (star_no hs _ _)) (by rw [star_no hs, star_no hs2]; rfl) (star_no hs2 _ _)) fun σ H Q ⟨A, O, ρ, er, h⟩ => ?_
  rw [evIt] at h
  refine seq1I er h fun x v H1 _ s1 hv er1 h1 => ?_
  refine seq1I er1 h1 fun y w H2 _ s2 hw er2 h2 => ?_
  cases hv with
  | int i =>
    cases hw with
    | int j =>
      have h2 : outI G W _ σ H2 (guardR (smallI i && smallI j) (.ok (intsD i (j - i).toNat))) Q := h2
      cases c : smallI i && smallI j with
      | false => rw [c] at h2; exact h2.elim
      | true =>
        rw [c] at h2
        obtain ⟨c1, c2⟩ := smallI_ok (bb c).1
        obtain ⟨c3, c4⟩ := smallI_ok (bb c).2
        exact ⟨i, j, rfl, ⟨c1, c2, c3, c4⟩, h2 _ H2 [] (Same.refl H2) its_rng fun q hq => absurd hq (by simp)⟩
    | _ => exact h2.elim
  | _ => exact h2.elim
/-- what walks, then the rest -/
theorem seqI {it : It} {A : Addr → Prop} {O : Ow} {σ : L2.St} {H : Hp} {ρ : Env} {f : Bool} {g : List D → R D} {B : Addr → Prop} {Q : VK} {R : HIt → Hp → Prop} (er : ER G ex A₀ H₀ A O σ H ρ) (h : outD G W B σ f H ((evIt T it ρ).bind g) Q)
    (k : ∀ ds J H1 ps, evIt T it ρ = .ok ds → Same H H1 → Its G J ds ps → (∀ p ∈ ps, Has G (fr (wi A O (rootsI it)) H) H1 p.1 p.2) → ER G ex A₀ H₀ (fr A H) O σ H1 ρ → outD G W (fr B H) σ f H1 (g ds) Q → R J H1) : tI G T W ex A₀ H₀ it σ H R := by
  refine ⟨A, O, ρ, er, ?_⟩
  cases e : evIt T it ρ with
  | stk => rw [e] at h; exact h
  | exc x => rw [e] at h; exact fun cls dx H2 s2 r => h cls dx H2 s2 r
  | ok x =>
    rw [e] at h
    exact fun J H1 ps s1 hJ hp => k x J H1 ps e s1 hJ hp (er.go s1) (outD_up s1 (fun _ z => z) h)
/-! ### comprehensions -/
def noW : WX := fun _ _ _ _ => False
def Lo.blk (L : Lo) (scope : Scope) : Lo := ⟨relS scope L.sc, fun x => scope.names.lookup x == some .cell, L.cm⟩
theorem PX.blk (P : PX G S T X L W ex) (hc : L.cm = true) (s : Shared) (H : Hp) (scope : Scope) (C : Addr) (cl : List (Str × Addr)) (fp : List Addr) : PX G S T (X.blk s H scope (compEnvC scope cl C X.env) fp) (L.blk scope) noW ex where
  hG := P.hG
  calm := P.calm
  fnE := rfl
  un := P.un
  nm := P.nm
  nd := P.nd
  esc := by
    show relS scope X.env.scope = relS scope L.sc
    rw [P.esc]
  tk := takes0
  fns := P.fns
  mks := P.mks
  gi := P.gi
  gs := P.gs
  free := P.free
  cls := P.cls
  cfS := P.cfS
  cfN := P.cfN
  exn := P.exn
  efS := P.efS
  xin := P.xin
  exm := P.exm
  qf := P.qf
  pin := fun z => absurd z (by rw [show (L.blk scope).cm = true from hc]; exact fun h => nomatch h)
  enE := P.enE
  ini := P.ini
  kit := P.kit
  kitV := P.kitV
  isx := fun z => absurd z (by rw [show (L.blk scope).cm = true from hc]; exact fun h => nomatch h)
  xfx := fun z => absurd z (by rw [show (L.blk scope).cm = true from hc]; exact fun h => nomatch h)
/-- the tests of a comprehension: none, one -/
def tAll (G : Sg) (T : Tab) (W : WX) (ex : ExI) (A₀ : Addr → Prop) (H₀ : Hp) (es : Exs) : TT := fun σ H Q => ∃ A O ρ, ER G ex A₀ H₀ A O σ H ρ ∧ outB G W σ H (evAll T es ρ) Q
theorem PTs.of {e : List Expr} {t t' : TT} (h : PTs X e t) (w : ∀ σ H Q, t' σ H Q → t σ H Q) : PTs X e t' := ⟨fun pins s σ H Q I q => h.run pins s σ H Q I (w σ H Q q)⟩
theorem sts_nil : PTs X [] (tAll G T W ex A₀ H₀ .nil) := PTs.of pts_nil fun σ H Q ⟨A, O, ρ, er, h⟩ => by
  rw [evAll] at h
  exact h H (Same.refl H)
theorem sts_one {i : Ex} {e : Expr} (h : PT X e (tDB G T W ex A₀ H₀ i)) : PTs X [e] (tAll G T W ex A₀ H₀ (.cons i .nil)) := PTs.of (pts_one h) fun σ H Q ⟨A, O, ρ, er, h⟩ => by
  refine ⟨A, O, ρ, er, ?_⟩
  rw [evAll, ← bind_assoc] at h
  cases e : (ev T i ρ).bind truR with
  | stk => rw [e] at h; exact h
  | exc x => rw [e] at h; exact h
  | ok b =>
    rw [e] at h
    cases b with
    | true =>
      have h : outB G W σ H (evAll T .nil ρ) Q := h
      rw [evAll] at h
      exact h
    | false => exact h
/-- what one turn of a comprehension gives -/
def turnF (T : Tab) (g : Tg) (ifs : Exs) (e : Ex) (ρ : Env) (x : D) : R (List D) := (bindT g x ρ).bind fun ρ => (evAll T ifs ρ).bind fun k => match k with
    | true => (ev T e ρ).bind fun y => .ok [y]
    | false => .ok []
theorem collect_cons {f : D → R (List D)} {x : D} {xs ys : List D} (h : collect f (x :: xs) = .ok ys) : ∃ y1 y2, f x = .ok y1 ∧ collect f xs = .ok y2 ∧ ys = y1 ++ y2 := by
  rw [collect] at h
  obtain ⟨y1, h1, h⟩ := bind_ok h
  obtain ⟨y2, h2, h⟩ := bind_ok h
  exact ⟨y1, y2, h1, h2, (ok_inj h).symm⟩
theorem drop_cons {xs : List D} {i : Nat} {x : D} (h : xs[i]? = some x) : xs.drop i = x :: xs.drop (i + 1) := by
  obtain ⟨hi, e⟩ := List.getElem?_eq_some_iff.mp h
  rw [List.drop_eq_getElem_cons hi, e]
theorem wipe_wipe (σ : L2.St) (vs : List Nat) : L2.wipe (L2.wipe σ vs) vs = L2.wipe σ vs := by
  apply List.ext_getElem?
  intro j
  rw [wipe_get, wipe_get]
  split
  · cases σ[j]? <;> rfl
  · rfl
theorem lc_w (own : List (Str × Nat)) {g : Tg} {it : It} {ifs : Exs} {e : Ex} (hn : ∀ j ∈ g.ns, j ∈ own.map (·.2)) {σ : L2.St} {H : Hp} {Q : VK} (h : tD G T W ex A₀ H₀ (.lc (own.map (·.2)) g it ifs e) σ H Q) :
    tLc (tI G T W ex A₀ H₀ it) (tG G ex A₀ H₀ g) (tAll G T noW ex A₀ H₀ ifs) (tD G T noW ex A₀ H₀ e) (own.map (·.2)) σ H Q := by
  obtain ⟨A, O, ρ, er, h⟩ := h
  rw [ev] at h
  refine seqI er h fun xs J H1 ps _ s1 hJ hp er1 h1 D hD => ?_
  generalize hvs : own.map (·.2) = vs at h1 hn
  have h1 : outD G W (fr (wi A O (roots (.lc vs g it ifs e))) H) σ true H1 ((noExc (collect (turnF T g ifs e (wipeE (unown ρ (rootsI it)) vs)) xs)).bind fun ys => guardR (decide (ys.length ≤ line)) (.ok (.lst ys))) Q := h1
  cases ec : collect (turnF T g ifs e (wipeE (unown ρ (rootsI it)) vs)) xs with
  | stk => rw [ec] at h1; exact h1.elim
  | exc x => rw [ec] at h1; exact h1.elim
  | ok ys =>
    rw [ec] at h1
    have h1 : outD G W (fr (wi A O (roots (.lc vs g it ifs e))) H) σ true H1 (guardR (decide (ys.length ≤ line)) (.ok (.lst ys))) Q := h1
    cases c : decide (ys.length ≤ line) with
    | false => rw [c] at h1; exact h1.elim
    | true =>
      rw [c] at h1
      have h1 : Res G (fr (wi A O (roots (.lc vs g it ifs e))) H) true H1 (.lst ys) Q := h1
      have hlen := of_decide_eq_true c
      -- the names' values without the source's own
      have er2 := ((er1.un (rootsI it)).wipe vs)
      generalize hρ : wipeE (unown ρ (rootsI it)) vs = ρ' at er2 ec
      -- what all stands on
      let B : Addr → Prop := fun q => ((fr A H q ∨ ow O (rootsI it) q) ∨ H1 q = none) ∧ q ≠ D
      let O' : Ow := fun j k p => O j k p ∧ j ∉ rootsI it
      have nD : ¬ B D := fun z => z.2 rfl
      have ownD : ∀ j k, ¬ O j k D := fun j k z => by
        have := (er1.own j k D z).2.1
        rw [hD] at this
        cases this
      have D0 : H₀ D = none := same_none er1.same hD
      have bk : ∀ {Hc : Hp}, Same H1 Hc → (Hc D).isSome = true → ∀ q, fr B Hc q → B q := fun {Hc} s hs q z => by
        rcases z with z | z
        · exact z
        · refine ⟨.inr (same_none s z), fun e => ?_⟩
          subst e
          rw [z] at hs
          cases hs
      -- the invariant
      refine ⟨fun i m Hc => i + m = xs.length ∧ Same H1 Hc ∧ ER G ex A₀ H₀ B O' (L2.wipe σ vs) Hc ρ' ∧ (∀ p ∈ ps, Has G B Hc p.1 p.2) ∧ ∃ acc y1 y2, Hc D = some (.lst acc) ∧ HasL G (fun q => fr (fr (wi A O (roots (.lc vs g it ifs e))) H) H1 q ∧ q ≠ D) Hc acc y1 ∧
        collect (turnF T g ifs e ρ') (xs.drop i) = .ok y2 ∧ ys = y1 ++ y2, ⟨xs.length, by omega, ?_, ?_, ?_, [], [], ys, upd_same, .nil, ec, rfl⟩, ?_⟩
      · exact same_upd hD
      · have er3 : ER G ex A₀ H₀ B O' (L2.wipe σ vs) H1 ρ' := er2.move (Same.refl H1) (fun q z zs => ⟨.inl z, fun e => by subst e; rw [hD] at zs; cases zs⟩) fun q z => z.1
        exact er3.move (same_upd hD) (fun q z _ => z) fun q z => .inl z
      · intro p hp'
        refine (hp p hp').to (same_upd hD) fun q z zs => ⟨.inl ?_, fun e => by subst e; rw [hD] at zs; cases zs⟩
        rcases z with (z | z) | z
        · exact .inl (.inl z)
        · exact .inr z
        · exact .inl (.inr z)
      · rintro i m Hc ⟨hm, sc, erc, hpc, acc, y1, y2, hacc, hh, hcol, hy⟩
        cases hx : xs[i]? with
        | none =>
          have hi : xs.length ≤ i := List.getElem?_eq_none_iff.mp hx
          refine .inl ⟨hJ.stop B Hc i hpc hi, ?_⟩
          rw [List.drop_eq_nil_of_le hi] at hcol
          cases hcol
          rw [List.append_nil] at hy
          subst hy
          exact h1 _ Hc sc (.lst (.inr hD) hacc (hh.mono (fun q z => z.1) (Same.refl _))) fun _ => ⟨D, acc, rfl, hD, hacc, hh⟩
        | some x =>
          obtain ⟨g1, g2⟩ := hJ.go B Hc i x hpc hx
          rw [drop_cons hx] at hcol
          obtain ⟨ya, yb, c1, c2, rfl⟩ := collect_cons hcol
          have hi : i < xs.length := (List.getElem?_eq_some_iff.mp hx).1
          -- what is to be reached
          refine .inr ⟨g1, fun H' => Same H1 H' ∧ ER G ex A₀ H₀ B O' (L2.wipe σ vs) H' ρ' ∧ (∀ p ∈ ps, Has G B H' p.1 p.2) ∧ ∃ acc, H' D = some (.lst acc) ∧ HasL G (fun q => fr (fr (wi A O (roots (.lc vs g it ifs e))) H) H1 q ∧ q ≠ D) H' acc (y1 ++ ya),
            fun H' ⟨k1, k2, k3, acc', k4, k5⟩ => ⟨m - 1, by omega, by omega, k1, k2, k3, acc', y1 ++ ya, yb, k4, k5, c2, by rw [hy, List.append_assoc]⟩, fun v H2 hy2 => ?_⟩
          obtain ⟨s2, hv⟩ := g2 v H2 hy2
          have sc2 := same_tr sc s2
          have hD2 : H2 D = some (.lst acc) := s2 _ _ hacc
          have er4 : ER G ex A₀ H₀ B O' (L2.wipe σ vs) H2 ρ' := erc.move s2 (fun q z _ => z) fun q z => .inl z
          have hv2 : Has G B H2 v x := hv.mono (bk sc (by rw [hacc]; rfl)) (Same.refl _)
          obtain ⟨ρ2, b1, c1⟩ := bind_ok c1
          refine ⟨B, O', ρ', x, er4, hv2, ?_⟩
          rw [b1]
          intro O2 σ2 er5 w5 o5
          refine ⟨by rw [w5 vs hn, wipe_wipe], ?_⟩
          obtain ⟨k, b2, c1⟩ := bind_ok c1
          refine ⟨B, O2, ρ2, er5, ?_⟩
          rw [b2]
          intro H3 s3
          have sc3 := same_tr sc2 s3
          have hD3 : H3 D = some (.lst acc) := s3 _ _ hD2
          have hp3 : ∀ p ∈ ps, Has G B H3 p.1 p.2 := fun p z => (hpc p z).mono (fun _ z => z) (same_tr s2 s3)
          have er6 : ER G ex A₀ H₀ B O' (L2.wipe σ vs) H3 ρ' := erc.move (same_tr s2 s3) (fun q z _ => z) fun q z => .inl z
          cases k with
          | false =>
            cases c1
            rw [if_neg Bool.false_ne_true, List.append_nil]
            exact ⟨sc3, er6, hp3, acc, hD3, hh.mono (fun _ z => z) (same_tr s2 s3)⟩
          | true =>
            obtain ⟨y, b3, c1⟩ := bind_ok c1
            cases c1
            rw [if_pos rfl]
            have er7 : ER G ex A₀ H₀ B O2 σ2 H3 ρ2 := er5.move s3 (fun q z _ => z) fun q z => .inl z
            refine ⟨B, O2, ρ2, er7, ?_⟩
            rw [b3]
            intro w H4 s4 hw _
            have hD4 : H4 D = some (.lst acc) := s4 _ _ hD3
            have sc4 := same_tr sc3 s4
            have sA := same_tr (same_tr s2 s3) s4
            have mu : Mut (H4 D) := by rw [hD4]; exact trivial
            have nx : ∀ fs, H4 D ≠ some (.xd fs) := fun fs z => by rw [hD4] at z; cases z
            have hl := hh.length
            refine ⟨acc, hD4, ?_, ?_, ?_, ?_, acc ++ [w], upd_same, ?_⟩
            · rw [hl, ← line_eq]
              have := congrArg List.length hy
              rw [List.length_append, List.length_append, List.length_singleton] at this
              omega
            · exact fun b x e => by
                rw [upd_ne (ne_of_none e hD)]
                exact sc4 b x e
            · have er8 : ER G ex A₀ H₀ B O' (L2.wipe σ vs) H4 ρ' := erc.move sA (fun q z _ => z) fun q z => .inl z
              exact er8.updF mu nx nD (fun j k z => ownD j k z.1) D0
            · exact fun p z => ((hpc p z).mono (fun _ z => z) sA).upd mu nD
            · refine HasL.append ((hh.mono (fun _ z => z) sA).upd mu fun z => z.2 rfl) (HasL.one (Has.upd mu (fun z => z.2 rfl) (hw.mono (fun q z => ?_) (Same.refl _))))
              have zB : ∀ q, B q → fr (fr (wi A O (roots (.lc vs g it ifs e))) H) H1 q ∧ q ≠ D := fun q z => by
                refine ⟨?_, z.2⟩
                rcases z.1 with (z | ⟨j, hj, k, z⟩) | z
                · exact .inl (z.imp (fun z => .inl z) id)
                · exact .inl (.inl (.inr ⟨j, List.mem_append_left _ hj, k, z⟩))
                · exact .inr z
              rcases z with (z | ⟨j, hj, k, z⟩) | z
              · exact zB q z
              · have zO := o5 j k q z
                refine ⟨.inl (.inl (.inr ⟨j, List.mem_append_right _ hj, k, zO.1⟩)), fun e => ?_⟩
                subst e
                exact ownD j k zO.1
              · exact zB q (bk sc3 (by rw [hD3]; rfl) q (.inr z))
theorem se_lc {own : List (Str × Nat)} {g : Tg} {it : It} {ifs : Exs} {e : Ex} {elt tg iter : Expr} {xifs : List Expr} {scope : Scope} {pos : Pos} (P : PX G S T X L W ex) (hc : L.cm = true) (hi : PI X tg iter (tI G T W ex A₀ H₀ it)) (ok : BlkOk X.N X.env.scope scope own)
    (hg : ∀ (s : Shared) (H : Hp) (C : Addr) (cl : List (Str × Addr)) (fp : List Addr), PG (X.blk s H scope (compEnvC scope cl C X.env) fp) tg (tG G ex A₀ H₀ g))
    (ht : ∀ (s : Shared) (H : Hp) (C : Addr) (cl : List (Str × Addr)) (fp : List Addr), PTs (X.blk s H scope (compEnvC scope cl C X.env) fp) xifs (tAll G T noW ex A₀ H₀ ifs))
    (he : ∀ (s : Shared) (H : Hp) (C : Addr) (cl : List (Str × Addr)) (fp : List Addr), PE (X.blk s H scope (compEnvC scope cl C X.env) fp) elt (tD G T noW ex A₀ H₀ e))
    (hs : ∀ x, foldedSetIterable iter X.env x = pure x) (hn : ∀ j ∈ g.ns, j ∈ own.map (·.2)) : PE X (.ListComp elt [⟨tg, iter, xifs, 0⟩] scope pos) (tD G T W ex A₀ H₀ (.lc (own.map (·.2)) g it ifs e)) :=
  PE.of (pe_lc (P.calm hc) (by rw [P.nm]; exact P.nd) hi ok hg ht he hs) fun σ H Q h => lc_w own hn h
/-- what one turn of the outer clause gives -/
def turn2 (T : Tab) (own2 : List Nat) (g : Tg) (ifs : Exs) (it2 : It) (g2 : Tg) (ifs2 : Exs) (e : Ex) (ρ : Env) (x : D) : R (List D) := (bindT g x ρ).bind fun ρ => (evAll T ifs ρ).bind fun k => match k with
    | true => (evIt T it2 ρ).bind fun xs2 => collect (turnF T g2 ifs2 e (wipeE (unown ρ (rootsI it2)) own2)) xs2
    | false => .ok []
theorem lc2_w (own : List (Str × Nat)) {vs1 : List Nat} {g g2 : Tg} {it it2 : It} {ifs ifs2 : Exs} {e : Ex} (hn : ∀ j ∈ g.ns, j ∈ own.map (·.2)) (hn1 : ∀ j ∈ g2.ns, j ∈ vs1) {σ : L2.St} {H : Hp} {Q : VK} (h : tD G T W ex A₀ H₀ (.lc2 (own.map (·.2)) vs1 g it ifs g2 it2 ifs2 e) σ H Q) :
    tLc2 (tI G T W ex A₀ H₀ it) (tG G ex A₀ H₀ g) (tAll G T noW ex A₀ H₀ ifs) (tI G T noW ex A₀ H₀ it2) (tG G ex A₀ H₀ g2) (tAll G T noW ex A₀ H₀ ifs2) (tD G T noW ex A₀ H₀ e) (own.map (·.2)) vs1 σ H Q := by
  obtain ⟨A, O, ρ, er, h⟩ := h
  rw [ev] at h
  refine seqI er h fun xs J H1 ps _ s1 hJ hp er1 h1 D hD => ?_
  generalize hvs : own.map (·.2) = vs at h1 hn
  have h1 : outD G W (fr (wi A O (roots (.lc2 vs vs1 g it ifs g2 it2 ifs2 e))) H) σ true H1 ((noExc (collect (turn2 T vs1 g ifs it2 g2 ifs2 e (wipeE (unown ρ (rootsI it)) vs)) xs)).bind fun ys => guardR (decide (ys.length ≤ line)) (.ok (.lst ys))) Q := h1
  cases ec : collect (turn2 T vs1 g ifs it2 g2 ifs2 e (wipeE (unown ρ (rootsI it)) vs)) xs with
  | stk => rw [ec] at h1; exact h1.elim
  | exc x => rw [ec] at h1; exact h1.elim
  | ok ys =>
    rw [ec] at h1
    have h1 : outD G W (fr (wi A O (roots (.lc2 vs vs1 g it ifs g2 it2 ifs2 e))) H) σ true H1 (guardR (decide (ys.length ≤ line)) (.ok (.lst ys))) Q := h1
    cases c : decide (ys.length ≤ line) with
    | false => rw [c] at h1; exact h1.elim
    | true =>
      rw [c] at h1
      have h1 : Res G (fr (wi A O (roots (.lc2 vs vs1 g it ifs g2 it2 ifs2 e))) H) true H1 (.lst ys) Q := h1
      have hlen := of_decide_eq_true c
      have er2 := ((er1.un (rootsI it)).wipe vs)
      generalize hρ : wipeE (unown ρ (rootsI it)) vs = ρ' at er2 ec
      let B : Addr → Prop := fun q => ((fr A H q ∨ ow O (rootsI it) q) ∨ H1 q = none) ∧ q ≠ D
      let O' : Ow := fun j k p => O j k p ∧ j ∉ rootsI it
      let SS : Addr → Prop := fun q => fr (fr (wi A O (roots (.lc2 vs vs1 g it ifs g2 it2 ifs2 e))) H) H1 q ∧ q ≠ D
      have nD : ¬ B D := fun z => z.2 rfl
      have ownD : ∀ j k, ¬ O j k D := fun j k z => by
        have := (er1.own j k D z).2.1
        rw [hD] at this
        cases this
      have D0 : H₀ D = none := same_none er1.same hD
      have bk : ∀ {Hc : Hp}, Same H1 Hc → (Hc D).isSome = true → ∀ q, Hc q = none → B q := fun {Hc} s hs q z => by
        refine ⟨.inr (same_none s z), fun e => ?_⟩
        subst e
        rw [z] at hs
        cases hs
      have zB : ∀ q, B q → SS q := fun q z => by
        refine ⟨?_, z.2⟩
        rcases z.1 with (z | ⟨j, hj, k, z⟩) | z
        · exact .inl (z.imp (fun z => .inl z) id)
        · exact .inl (.inl (.inr ⟨j, List.mem_append_left _ hj, k, z⟩))
        · exact .inr z
      -- the store of an element
      have put : ∀ {H4 : Hp} {acc : List V} {w : V} {zs : List PD.D} {y : PD.D}, Same H1 H4 → H4 D = some (.lst acc) → HasL G SS H4 acc zs → Has G SS H4 w y → (zs.length < ys.length) →
          acc.length < sizeLine ∧ Same H1 (upd H4 D (.lst (acc ++ [w]))) ∧ HasL G SS (upd H4 D (.lst (acc ++ [w]))) (acc ++ [w]) (zs ++ [y]) := fun {H4 acc w zs y} s4 hD4 hh hw hl => by
        have mu : Mut (H4 D) := by rw [hD4]; exact trivial
        refine ⟨?_, ?_, HasL.append (hh.upd mu fun z => z.2 rfl) (HasL.one (Has.upd mu (fun z => z.2 rfl) hw))⟩
        · rw [hh.length, ← line_eq]
          omega
        · exact fun b x e => by
            rw [upd_ne (ne_of_none e hD)]
            exact s4 b x e
      have kp : ∀ {H4 : Hp} {acc : List V} {o : HO} {A2 : Addr → Prop} {O2 : Ow} {σ2 : L2.St} {ρ2 : Env}, H4 D = some (.lst acc) → ¬ A2 D → (∀ j k, ¬ O2 j k D) → ER G ex A₀ H₀ A2 O2 σ2 H4 ρ2 → ER G ex A₀ H₀ A2 O2 σ2 (upd H4 D o) ρ2 := fun {H4 acc o A2 O2 σ2 ρ2} hD4 nA nO er => by
        refine er.updF (by rw [hD4]; exact trivial) (fun fs z => by rw [hD4] at z; cases z) nA nO D0
      refine ⟨fun i m Hc => i + m = xs.length ∧ Same H1 Hc ∧ ER G ex A₀ H₀ B O' (L2.wipe σ vs) Hc ρ' ∧ (∀ p ∈ ps, Has G B Hc p.1 p.2) ∧ ∃ acc y1 y2, Hc D = some (.lst acc) ∧ HasL G SS Hc acc y1 ∧
        collect (turn2 T vs1 g ifs it2 g2 ifs2 e ρ') (xs.drop i) = .ok y2 ∧ ys = y1 ++ y2, ⟨xs.length, by omega, ?_, ?_, ?_, [], [], ys, upd_same, .nil, ec, rfl⟩, ?_⟩
      · exact same_upd hD
      · have er3 : ER G ex A₀ H₀ B O' (L2.wipe σ vs) H1 ρ' := er2.move (Same.refl H1) (fun q z zs => ⟨.inl z, fun e => by subst e; rw [hD] at zs; cases zs⟩) fun q z => z.1
        exact er3.move (same_upd hD) (fun q z _ => z) fun q z => .inl z
      · intro p hp'
        refine (hp p hp').to (same_upd hD) fun q z zs => ⟨.inl ?_, fun e => by subst e; rw [hD] at zs; cases zs⟩
        rcases z with (z | z) | z
        · exact .inl (.inl z)
        · exact .inr z
        · exact .inl (.inr z)
      · rintro i m Hc ⟨hm, sc, erc, hpc, acc, y1, y2, hacc, hh, hcol, hy⟩
        cases hx : xs[i]? with
        | none =>
          have hi : xs.length ≤ i := List.getElem?_eq_none_iff.mp hx
          refine .inl ⟨hJ.stop B Hc i hpc hi, ?_⟩
          rw [List.drop_eq_nil_of_le hi] at hcol
          cases hcol
          rw [List.append_nil] at hy
          subst hy
          exact h1 _ Hc sc (.lst (.inr hD) hacc (hh.mono (fun q z => z.1) (Same.refl _))) fun _ => ⟨D, acc, rfl, hD, hacc, hh⟩
        | some x =>
          obtain ⟨g1, g2'⟩ := hJ.go B Hc i x hpc hx
          rw [drop_cons hx] at hcol
          obtain ⟨ya, yb, c1, c2, rfl⟩ := collect_cons hcol
          have hi : i < xs.length := (List.getElem?_eq_some_iff.mp hx).1
          refine .inr ⟨g1, fun H' => Same H1 H' ∧ ER G ex A₀ H₀ B O' (L2.wipe σ vs) H' ρ' ∧ (∀ p ∈ ps, Has G B H' p.1 p.2) ∧ ∃ acc, H' D = some (.lst acc) ∧ HasL G SS H' acc (y1 ++ ya),
            fun H' ⟨k1, k2, k3, acc', k4, k5⟩ => ⟨m - 1, by omega, by omega, k1, k2, k3, acc', y1 ++ ya, yb, k4, k5, c2, by rw [hy, List.append_assoc]⟩, fun v H2 hy2 => ?_⟩
          obtain ⟨s2, hv⟩ := g2' v H2 hy2
          have sc2 := same_tr sc s2
          have hD2 : H2 D = some (.lst acc) := s2 _ _ hacc
          have er4 : ER G ex A₀ H₀ B O' (L2.wipe σ vs) H2 ρ' := erc.move s2 (fun q z _ => z) fun q z => .inl z
          have hv2 : Has G B H2 v x := hv.mono (fun q z => z.elim id fun z => bk sc (by rw [hacc]; rfl) q z) (Same.refl _)
          obtain ⟨ρ2, b1, c1⟩ := bind_ok c1
          refine ⟨B, O', ρ', x, er4, hv2, ?_⟩
          rw [b1]
          intro O2 σ2 er5 w5 o5
          refine ⟨by rw [w5 vs hn, wipe_wipe], ?_⟩
          obtain ⟨k, b2, c1⟩ := bind_ok c1
          refine ⟨B, O2, ρ2, er5, ?_⟩
          rw [b2]
          intro H3 s3
          have sc3 := same_tr sc2 s3
          have hD3 : H3 D = some (.lst acc) := s3 _ _ hD2
          have hp3 : ∀ p ∈ ps, Has G B H3 p.1 p.2 := fun p z => (hpc p z).mono (fun _ z => z) (same_tr s2 s3)
          have er6 : ER G ex A₀ H₀ B O' (L2.wipe σ vs) H3 ρ' := erc.move (same_tr s2 s3) (fun q z _ => z) fun q z => .inl z
          cases k with
          | false =>
            cases c1
            rw [if_neg Bool.false_ne_true, List.append_nil]
            exact ⟨sc3, er6, hp3, acc, hD3, hh.mono (fun _ z => z) (same_tr s2 s3)⟩
          | true =>
            obtain ⟨xs2, b3, c1⟩ := bind_ok c1
            rw [if_pos rfl]
            have er7 : ER G ex A₀ H₀ B O2 σ2 H3 ρ2 := er5.move s3 (fun q z _ => z) fun q z => .inl z
            refine ⟨B, O2, ρ2, er7, ?_⟩
            rw [b3]
            intro J1 H4 ps1 s4 hJ1 hp1
            have sc4 := same_tr sc3 s4
            have hD4 : H4 D = some (.lst acc) := s4 _ _ hD3
            -- the inner names' values
            have er8 := (er7.un (rootsI it2)).wipe vs1
            generalize hρ2 : wipeE (unown ρ2 (rootsI it2)) vs1 = ρ3 at er8 c1
            let B1 : Addr → Prop := fun q => B q ∨ ow O2 (rootsI it2) q
            let O3 : Ow := fun j k p => O2 j k p ∧ j ∉ rootsI it2
            have nO2 : ∀ j k, ¬ O2 j k D := fun j k z => ownD j k (o5 j k D z).1
            have nD1 : ¬ B1 D := fun z => z.elim nD fun ⟨j, _, k, z⟩ => nO2 j k z
            have zB1 : ∀ q, B1 q → SS q := fun q z => by
              rcases z with z | ⟨j, hj, k, z⟩
              · exact zB q z
              · have zO := (o5 j k q z).1
                exact ⟨.inl (.inl (.inr ⟨j, List.mem_append_right _ (List.mem_append_left _ hj), k, zO⟩)), fun e => by subst e; exact ownD j k zO⟩
            have er9 : ER G ex A₀ H₀ B1 O3 (L2.wipe σ2 vs1) H4 ρ3 := er8.move s4 (fun q z _ => z) fun q z => .inl z
            have er10 : ER G ex A₀ H₀ B O' (L2.wipe σ vs) H4 ρ' := er6.move s4 (fun q z _ => z) fun q z => .inl z
            refine ⟨fun j k Hd => j + k = xs2.length ∧ Same H1 Hd ∧ ER G ex A₀ H₀ B O' (L2.wipe σ vs) Hd ρ' ∧ (∀ p ∈ ps, Has G B Hd p.1 p.2) ∧ ER G ex A₀ H₀ B1 O3 (L2.wipe σ2 vs1) Hd ρ3 ∧ (∀ p ∈ ps1, Has G B1 Hd p.1 p.2) ∧
              ∃ acc z1 z2, Hd D = some (.lst acc) ∧ HasL G SS Hd acc (y1 ++ z1) ∧ collect (turnF T g2 ifs2 e ρ3) (xs2.drop j) = .ok z2 ∧ ya = z1 ++ z2, ⟨xs2.length, by omega, sc4, er10, fun p z => (hp3 p z).mono (fun _ z => z) s4, er9, fun p z => (hp1 p z).mono (fun q z => ?_) (Same.refl _), acc, [], ya, hD4, ?_, c1, rfl⟩, ?_⟩
            · rcases z with z | z
              · exact z
              · exact .inl (bk sc3 (by rw [hD3]; rfl) q z)
            · rw [List.append_nil]
              exact hh.mono (fun _ z => z) (same_tr (same_tr s2 s3) s4)
            · rintro j k Hd ⟨hjk, sd, erd, hpd, erd2, hpd2, accd, z1, z2, haccd, hhd, hcold, hyd⟩
              cases hx2 : xs2[j]? with
              | none =>
                have hj : xs2.length ≤ j := List.getElem?_eq_none_iff.mp hx2
                refine .inl ⟨hJ1.stop B1 Hd j hpd2 hj, sd, erd, hpd, accd, haccd, ?_⟩
                rw [List.drop_eq_nil_of_le hj] at hcold
                cases hcold
                rw [List.append_nil] at hyd
                subst hyd
                exact hhd
              | some x2 =>
                obtain ⟨g3, g4⟩ := hJ1.go B1 Hd j x2 hpd2 hx2
                rw [drop_cons hx2] at hcold
                obtain ⟨za, zb, d1, d2, rfl⟩ := collect_cons hcold
                have hj : j < xs2.length := (List.getElem?_eq_some_iff.mp hx2).1
                refine .inr ⟨g3, fun H' => Same H1 H' ∧ ER G ex A₀ H₀ B O' (L2.wipe σ vs) H' ρ' ∧ (∀ p ∈ ps, Has G B H' p.1 p.2) ∧ ER G ex A₀ H₀ B1 O3 (L2.wipe σ2 vs1) H' ρ3 ∧ (∀ p ∈ ps1, Has G B1 H' p.1 p.2) ∧ ∃ acc, H' D = some (.lst acc) ∧ HasL G SS H' acc (y1 ++ (z1 ++ za)),
                  fun H' ⟨k1, k2, k3, k4, k5, acc', k6, k7⟩ => ⟨k - 1, by omega, by omega, k1, k2, k3, k4, k5, acc', z1 ++ za, zb, k6, k7, d2, by rw [hyd, List.append_assoc]⟩, fun v2 H5 hy5 => ?_⟩
                obtain ⟨s5, hv5⟩ := g4 v2 H5 hy5
                have sd5 := same_tr sd s5
                have hD5 : H5 D = some (.lst accd) := s5 _ _ haccd
                have er11 : ER G ex A₀ H₀ B1 O3 (L2.wipe σ2 vs1) H5 ρ3 := erd2.move s5 (fun q z _ => z) fun q z => .inl z
                obtain ⟨ρ4, b4, d1⟩ := bind_ok d1
                refine ⟨B1, O3, ρ3, x2, er11, hv5.mono (fun q z => z.elim id fun z => .inl (bk sd (by rw [haccd]; rfl) q z)) (Same.refl _), ?_⟩
                rw [b4]
                intro O4 σ3 er12 w12 o12
                refine ⟨by rw [w12 vs1 hn1, wipe_wipe], ?_⟩
                obtain ⟨kk, b5, d1⟩ := bind_ok d1
                refine ⟨B1, O4, ρ4, er12, ?_⟩
                rw [b5]
                intro H6 s6
                have sd6 := same_tr sd5 s6
                have hD6 : H6 D = some (.lst accd) := s6 _ _ hD5
                have s56 := same_tr s5 s6
                cases kk with
                | false =>
                  cases d1
                  rw [if_neg Bool.false_ne_true, List.append_nil]
                  exact ⟨sd6, erd.move s56 (fun q z _ => z) fun q z => .inl z, fun p z => (hpd p z).mono (fun _ z => z) s56, erd2.move s56 (fun q z _ => z) fun q z => .inl z, fun p z => (hpd2 p z).mono (fun _ z => z) s56, accd, hD6, hhd.mono (fun _ z => z) s56⟩
                | true =>
                  obtain ⟨y, b6, d1⟩ := bind_ok d1
                  cases d1
                  rw [if_pos rfl]
                  refine ⟨B1, O4, ρ4, er12.move s6 (fun q z _ => z) fun q z => .inl z, ?_⟩
                  rw [b6]
                  intro w H7 s7 hw _
                  have sd7 := same_tr sd6 s7
                  have hD7 : H7 D = some (.lst accd) := s7 _ _ hD6
                  have s57 := same_tr s56 s7
                  have hw2 : Has G SS H7 w y := hw.mono (fun q z => by
                    rcases z with (z | ⟨j, hj, k, z⟩) | z
                    · exact zB1 q z
                    · have zO := (o5 j k q (o12 j k q z).1).1
                      exact ⟨.inl (.inl (.inr ⟨j, List.mem_append_right _ (List.mem_append_right _ hj), k, zO⟩)), fun e => by subst e; exact ownD j k zO⟩
                    · exact zB q (bk sd6 (by rw [hD6]; rfl) q z)) (Same.refl _)
                  have hl2 := congrArg List.length hy
                  have hl3 := congrArg List.length hyd
                  simp only [List.length_append, List.length_singleton] at hl2 hl3
                  obtain ⟨p1, p2, p3⟩ := put sd7 hD7 (hhd.mono (fun _ z => z) s57) hw2 (by rw [List.length_append]; omega)
                  have mu : Mut (H7 D) := by rw [hD7]; exact trivial
                  refine ⟨accd, hD7, p1, p2, kp hD7 nD (fun j k z => ownD j k z.1) (erd.move s57 (fun q z _ => z) fun q z => .inl z), fun p z => ((hpd p z).mono (fun _ z => z) s57).upd mu nD, kp hD7 nD1 (fun j k z => nO2 j k z.1) (erd2.move s57 (fun q z _ => z) fun q z => .inl z), fun p z => ((hpd2 p z).mono (fun _ z => z) s57).upd mu nD1, accd ++ [w], upd_same, ?_⟩
                  rw [← List.append_assoc]
                  exact p3
theorem se_lc2 {own : List (Str × Nat)} {vs1 : List Nat} {g g2 : Tg} {it it2 : It} {ifs ifs2 : Exs} {e : Ex} {elt tg iter tg1 iter1 : Expr} {xifs xifs1 : List Expr} {scope : Scope} {pos : Pos} (P : PX G S T X L W ex) (hc : L.cm = true) (hi : PI X tg iter (tI G T W ex A₀ H₀ it)) (ok : BlkOk X.N X.env.scope scope own) (hv : ∀ i ∈ vs1, i ∈ own.map (·.2))
    (hg : ∀ (s : Shared) (H : Hp) (C : Addr) (cl : List (Str × Addr)) (fp : List Addr), PG (X.blk s H scope (compEnvC scope cl C X.env) fp) tg (tG G ex A₀ H₀ g))
    (ht : ∀ (s : Shared) (H : Hp) (C : Addr) (cl : List (Str × Addr)) (fp : List Addr), PTs (X.blk s H scope (compEnvC scope cl C X.env) fp) xifs (tAll G T noW ex A₀ H₀ ifs))
    (hi1 : ∀ (s : Shared) (H : Hp) (C : Addr) (cl : List (Str × Addr)) (fp : List Addr), PI (X.blk s H scope (compEnvC scope cl C X.env) fp) tg1 iter1 (tI G T noW ex A₀ H₀ it2))
    (hg1 : ∀ (s : Shared) (H : Hp) (C : Addr) (cl : List (Str × Addr)) (fp : List Addr), PG (X.blk s H scope (compEnvC scope cl C X.env) fp) tg1 (tG G ex A₀ H₀ g2))
    (ht1 : ∀ (s : Shared) (H : Hp) (C : Addr) (cl : List (Str × Addr)) (fp : List Addr), PTs (X.blk s H scope (compEnvC scope cl C X.env) fp) xifs1 (tAll G T noW ex A₀ H₀ ifs2))
    (he : ∀ (s : Shared) (H : Hp) (C : Addr) (cl : List (Str × Addr)) (fp : List Addr), PE (X.blk s H scope (compEnvC scope cl C X.env) fp) elt (tD G T noW ex A₀ H₀ e))
    (hs : ∀ x, foldedSetIterable iter X.env x = pure x) (hs1 : ∀ env x, foldedSetIterable iter1 env x = pure x) (hn : ∀ j ∈ g.ns, j ∈ own.map (·.2)) (hn1 : ∀ j ∈ g2.ns, j ∈ vs1) :
    PE X (.ListComp elt [⟨tg, iter, xifs, 0⟩, ⟨tg1, iter1, xifs1, 0⟩] scope pos) (tD G T W ex A₀ H₀ (.lc2 (own.map (·.2)) vs1 g it ifs g2 it2 ifs2 e)) :=
  PE.of (pe_lc2 (P.calm hc) (by rw [P.nm]; exact P.nd) hi ok hv hg ht hi1 hg1 ht1 he hs hs1) fun σ H Q h => lc2_w own hn hn1 h
end
end PD
end

section
set_option Elab.async false
set_option linter.all false
set_option maxRecDepth 100000
set_option maxHeartbeats 2000000
/-! PD, part 11b: list(range(..)), tuple(range(..)). -/
namespace PD
open PySem PySem.Spec PyProof.Rows L2
section
variable {G : Sg} {S : Sx} {T : Tab} {X : Cx} {L : Lo} {W : WX} {ex : ExI} {A₀ : Addr → Prop} {H₀ : Hp}
theorem hasL_rng {A : Addr → Prop} {H : Hp} : ∀ (n : Nat) (lo : Int), HasL G A H ((List.range n).map fun i => V.int (lo + (i : Nat))) (intsD lo n)
  | 0, lo => .nil
  | n + 1, lo => by
    rw [List.range_succ_eq_map, List.map_cons, List.map_map]
    have e : (fun i => V.int (lo + (i : Nat))) ∘ Nat.succ = fun i : Nat => V.int ((lo + 1) + (i : Nat)) := by
      funext i
      show V.int (lo + ((i + 1 : Nat) : Int)) = V.int ((lo + 1) + (i : Nat))
      rw [show lo + ((i + 1 : Nat) : Int) = (lo + 1) + (i : Nat) by omega]
    rw [e, intsD]
    refine .cons ?_ (hasL_rng n (lo + 1))
    rw [Int.natCast_zero, Int.add_zero]
    exact .int lo
theorem rng_ok {a b : Int} (h1 : smallI a = true) (h2 : smallI b = true) (h3 : (intsD a (b - a).toNat).length ≤ line) : RgOk a b := by
  obtain ⟨a1, a2⟩ := bb h1
  obtain ⟨b1, b2⟩ := bb h2
  rw [intsD_len] at h3
  exact ⟨of_decide_eq_true a1, of_decide_eq_true a2, of_decide_eq_true b1, of_decide_eq_true b2, h3⟩
theorem se_lR1 {a : Ex} {ea : Expr} {p p2 pos pos2 : Pos} (P : PX G S T X L W ex) (hc : L.cm = true) (hf : ("list" : Str) ∈ S.free) (hg : Gl X "list") (hf2 : ("range" : Str) ∈ S.free) (hg2 : Gl X "range") (hs : notStar ea = true) (ha : PE X ea (tD G T W ex A₀ H₀ a)) :
    PE X (.Call (.Name "list" p) [.Call (.Name "range" p2) [ea] [] pos2] [] pos) (tD G T W ex A₀ H₀ (.lR (.r1 a))) := by
  refine PE.of (pe_listRg (P.calm hc) hg (P.free _ hf) (prg_1 hg2 (P.free _ hf2) ha (star_no hs [] _))) fun σ H Q ⟨A, O, ρ, er, h⟩ => ?_
  rw [ev, evIt, bind_assoc] at h
  refine seq1 er h fun x v H1 _ s hv er1 h1 => ?_
  cases hv with
  | int i =>
    have h1 : outD G W _ σ true H1 ((guardR (smallI i) (.ok (intsD 0 i.toNat))).bind fun xs => guardR (decide (xs.length ≤ line)) (.ok (.lst xs))) Q := h1
    refine ⟨i, rfl, ?_⟩
    cases e : smallI i with
    | false => rw [e] at h1; exact h1.elim
    | true =>
      rw [e] at h1
      have h1 : outD G W _ σ true H1 (guardR (decide ((intsD 0 i.toNat).length ≤ line)) (.ok (.lst (intsD 0 i.toNat)))) Q := h1
      cases c : decide ((intsD 0 i.toNat).length ≤ line) with
      | false => rw [c] at h1; exact h1.elim
      | true =>
        rw [c] at h1
        have h1 : Res G (fr (wi A O (roots (.lR (.r1 a)))) H) true H1 (.lst (intsD 0 i.toNat)) Q := h1
        have ez : i - 0 = i := Int.sub_zero i
        refine ⟨rng_ok rfl e (by rw [ez]; exact of_decide_eq_true c), fun q hq => ?_⟩
        refine h1.lst ?_ hq
        unfold rgV
        rw [ez]
        exact hasL_rng _ _
  | _ => exact h1.elim
theorem se_tR1 {a : Ex} {ea : Expr} {p p2 pos pos2 : Pos} (P : PX G S T X L W ex) (hc : L.cm = true) (hf : ("tuple" : Str) ∈ S.free) (hg : Gl X "tuple") (hf2 : ("range" : Str) ∈ S.free) (hg2 : Gl X "range") (hs : notStar ea = true) (ha : PE X ea (tD G T W ex A₀ H₀ a)) :
    PE X (.Call (.Name "tuple" p) [.Call (.Name "range" p2) [ea] [] pos2] [] pos) (tD G T W ex A₀ H₀ (.tR (.r1 a))) := by
  refine PE.of (pe_tupRg (P.calm hc) hg (P.free _ hf) (prg_1 hg2 (P.free _ hf2) ha (star_no hs [] _))) fun σ H Q ⟨A, O, ρ, er, h⟩ => ?_
  rw [ev, evIt, bind_assoc] at h
  refine seq1 er h fun x v H1 _ s hv er1 h1 => ?_
  cases hv with
  | int i =>
    have h1 : outD G W _ σ _ H1 ((guardR (smallI i) (.ok (intsD 0 i.toNat))).bind fun xs => guardR (decide (xs.length ≤ line)) (.ok (.tup xs))) Q := h1
    refine ⟨i, rfl, ?_⟩
    cases e : smallI i with
    | false => rw [e] at h1; exact h1.elim
    | true =>
      rw [e] at h1
      have h1 : outD G W _ σ _ H1 (guardR (decide ((intsD 0 i.toNat).length ≤ line)) (.ok (.tup (intsD 0 i.toNat)))) Q := h1
      cases c : decide ((intsD 0 i.toNat).length ≤ line) with
      | false => rw [c] at h1; exact h1.elim
      | true =>
        rw [c] at h1
        have h1 : Res G (fr (wi A O (roots (.tR (.r1 a)))) H) _ H1 (.tup (intsD 0 i.toNat)) Q := h1
        have ez : i - 0 = i := Int.sub_zero i
        refine ⟨rng_ok rfl e (by rw [ez]; exact of_decide_eq_true c), fun q hq => ?_⟩
        refine h1.tup ?_ hq
        unfold rgV
        rw [ez]
        exact hasL_rng _ _
  | _ => exact h1.elim
end
end PD
end

section
set_option Elab.async false
set_option linter.all false
set_option maxRecDepth 100000
set_option maxHeartbeats 2000000
/-! PD, part 11c: enumerate, zip. -/
namespace PD
open PySem PySem.Spec PyProof.Rows L2
/-! ### enumerate over a tuple -/
theorem tup_at {h h' : Heap} {l : Addr} {its : Array Value} (p : h.IsTuple l its) (k : ∀ o, h.get? l = some o → h'.get? l = some o) : h'.IsTuple l its :=
  let ⟨o, a, b⟩ := p
  ⟨o, k o a, b⟩
theorem drT {prog : Program} {w : World} {A : Around} (hh : A.handled = none) (it l : Addr) (ne : l ≠ it) (its : Array Value) :
    Draws prog w A it [it, l] its.size (fun i x => its[i]? = some x) (fun i h => h.IsTupleIter it l i ∧ h.IsTuple l its) where
  live := fun _ _ st => let ⟨o, a, _⟩ := st.1; ⟨o, a⟩
  frame := fun _ _ _ st k => ⟨st.1.at fun o q => k it (by simp) o q, tup_at st.2 fun o q => k l (by simp) o q⟩
  item := fun i s Q E hi st q => RZ.nextOf_tuple_item st.1 st.2 (Array.getElem?_eq_getElem hi) fun h' a b =>
    q _ h' s.toks (Array.getElem?_eq_getElem hi) ⟨a, tup_at st.2 fun o z => (b.2 l ne).trans z⟩ b
  done := fun s Q E st q => RZ.nextOf_tuple_end hh st.1 st.2 (by simp) q
def IteT (K : PySem.W.Frag) (a : Addr) : HIt where
  go := fun i H => ∃ (xs : List V) (x : V), SqT K H a xs ∧ xs[i]? = some x
  yld := fun i H v H' => ∃ T x, v = .ref T ∧ H T = none ∧ H' = upd H T (.tup [.int (i : Nat), x]) ∧ ∀ xs, SqT K H a xs → xs[i]? = some x
  stop := fun i H => ∃ xs : List V, SqT K H a xs ∧ xs.length ≤ i
theorem en_ne_tup {h : Heap} {e it a : Addr} {i : Int} {old : Value} {its : Array Value} (he : IsEnum h e it i old) (p : h.IsTuple a its) : a ≠ e := fun z => by
  obtain ⟨o, h1, h2, _⟩ := p
  rw [z, he] at h1
  cases h1
  exact absurd (Value.type.inj h2) (by decide)
theorem ti_ne_tup {h : Heap} {it a l : Addr} {i : Nat} {its : Array Value} (hi : h.IsTupleIter it l i) (p : h.IsTuple a its) : a ≠ it := fun z => by
  obtain ⟨o, h1, h2, _⟩ := p
  obtain ⟨o', k1, k2, _⟩ := hi
  rw [z, k1] at h1
  cases h1
  rw [k2] at h2
  exact absurd (Value.type.inj h2) (by decide)
theorem turn_enT {P : Program} {w : World} {K : PySem.W.Frag} {elts : List Expr} {kk : Nat} {tpos : Pos} (a e it : Addr) :
    Turn P w K (.Tuple elts kk tpos) (IteT K a) [e, it] e (fun i h => (∃ old, IsEnum h e it ((i : Nat) : Int) old) ∧ h.IsTupleIter it a i ∧ e ≠ it) where
  mem := List.mem_cons_self
  obj := fun i h st b hb => by
    obtain ⟨⟨old, he⟩, ⟨o, ho, _, hd⟩, _⟩ := st
    rcases List.mem_cons.mp hb with rfl | hb
    · exact ⟨_, he, fun _ q => nomatch q⟩
    · rw [List.mem_singleton.mp hb]
      exact ⟨o, ho, fun v q => by rw [hd] at q; cases q⟩
  keep := fun i h h' st k => ⟨st.1.imp fun _ he => k e (by simp) _ he, st.2.1.at fun o q => k it (by simp) o q, st.2.2⟩
  item := by
    intro X hP hw hK hc i pins s σ H E I hf st hg
    subst hP hw hK
    obtain ⟨⟨old, he⟩, hit, hne⟩ := st
    obtain ⟨xs, x, hq, hx⟩ := hg
    obtain ⟨its, rv, p, _⟩ := I.tuple hq
    obtain ⟨u, hu, ru⟩ := rv.get hx
    have p' : s.heap.IsTuple a its.toArray := p
    have hae := en_ne_tup he p'
    have hai := ti_ne_tup hit p'
    have hel := Heap.lt_size he
    have hil : it < s.heap.objs.size := let ⟨_, q, _⟩ := hit; Heap.lt_size q
    have hui : its.toArray[i]? = some u := by simpa using hu
    have hlt : i < its.toArray.size := (Array.getElem?_eq_some_iff.mp hui).1
    refine wpAny_pyNext_enum_itemD (drT (prog := X.prog) (w := X.w) (A := X.A.in1) (I.ok.hd hc) it a hai its.toArray) he ⟨hit, p'⟩ hlt hne (by simp [hne, hae.symm]) fun y h1 tk hy ho st1 hT hsz hk => ?_
    have : y = u := Option.some.inj (hy.symm.trans hui)
    subst this
    refine ⟨_, rfl, wpAny_letOwnedTupleGo_enum (s := { s with heap := h1, toks := tk + 1 }) ho fun h2 he2 sb => ?_⟩
    have hT2 := (sb.2 _ (Nat.ne_of_gt hel)).trans hT
    have new : ObjOk X.prog X.w (upd H s.heap.objs.size (.tup [.int (i : Nat), x])) h2 s.heap.objs.size (.tup [.int (i : Nat), x]) :=
      ⟨show 2 ≤ sizeLine by decide, [.int i tk, y], .cons ⟨tk, rfl⟩ (.cons ru .nil), ⟨_, hT2, rfl, _, rfl⟩⟩
    have I2 : Inv X pins σ (upd H s.heap.objs.size (.tup [.int (i : Nat), x])) { s with heap := h2, toks := tk + 1 } := by
      refine I.turnedNew (ch := [e, it]) (fun b o hb q => ?_) hf (Nat.le_refl _) new
      have b1 : b ≠ e := fun z => hb (by simp [z])
      have b2 : b ≠ it := fun z => hb (by simp [z])
      exact (sb.2 b b1).trans (hk b o b1 b2 q)
    refine ⟨.ref s.heap.objs.size, _, I2, rfl, ⟨_, x, rfl, I.hok.fresh (Nat.le_refl _), rfl, fun ys hy' => ?_⟩, ⟨⟨y, ?_⟩, st1.1.at fun o q => (sb.2 it hne.symm).trans q, hne⟩, fun b hb => ?_⟩
    · rw [I.tuple_inj hy' hq]; exact hx
    · rw [show ((i + 1 : Nat) : Int) = (i : Int) + 1 from rfl]
      exact he2
    · have hb' : b < s.heap.objs.size := by
        rcases List.mem_cons.mp hb with rfl | hb
        · exact hel
        · rw [List.mem_singleton.mp hb]; exact hil
      rw [upd_ne (Nat.ne_of_lt hb')]
      exact (hf b hb).1
  done := by
    intro X hP hw hK hc i pins s σ H E I hf st hg
    subst hP hw hK
    obtain ⟨⟨old, he⟩, hit, hne⟩ := st
    obtain ⟨xs, hq, hx⟩ := hg
    obtain ⟨its, rv, p, _⟩ := I.tuple hq
    have p' : s.heap.IsTuple a its.toArray := p
    obtain ⟨f0, f1, f2, f3, f4, f5⟩ := hf it (by simp)
    have hl := rv.length
    -- the iterator's own end, at any place behind the last
    have hT : s.TypeIs (.ref e) "enumerate" := ⟨_, he, rfl⟩
    have out : its.toArray[i]? = none := by simp; omega
    have D : Draws X.prog X.w X.A.in1 it [it, a] i (fun _ _ => True) (fun j h => j ≤ i ∧ h.IsTupleIter it a i ∧ h.IsTuple a its.toArray ∧ j = i) := {
      live := fun _ _ z => let ⟨o, k, _⟩ := z.2.1; ⟨o, k⟩
      frame := fun _ _ _ z k => ⟨z.1, z.2.1.at fun o q => k it (by simp) o q, tup_at z.2.2.1 fun o q => k a (by simp) o q, z.2.2.2⟩
      item := fun j s Q E hj z => absurd z.2.2.2 (Nat.ne_of_lt hj)
      done := fun s Q E z q => RZ.nextOf_tuple_end (I.ok.hd hc) z.2.1 z.2.2.1 out q }
    exact wpAny_pyNext_enum_endD D he ⟨Nat.le_refl i, hit, p', rfl⟩ fun h' eb => ⟨rfl, I.turned (t' := s.toks) (fun b o hb q => eb b o hb q) f0 f1 f3 f4 f5⟩
  self := fun A i s Q E st h => st.1.elim fun _ he => wpAny_pyIter_enum he h
end PD
namespace PySem
open Sem (wp)
open AutoSeq1 (wpAny_loadPart')
abbrev pdTI (l : Addr) : Obj := { cls := .type "tuple_iterator", data := .fields #[.ref l, .int 0 0] }
abbrev pdEn (i : Addr) : Obj := { cls := .type "enumerate", data := .fields #[.none, .bool false, .ref i, rawInt 0, .none, .none] }
theorem pd_meets (l : Addr) (its : Array Value) (n : Nat) (dct : Option Addr) (sl : Array (Option Value)) :
    Meets (Builtin.«enumerate.__new__» ⟨[.type "enumerate", .ref l], []⟩) (fun _ R s => s.heap.get? l = some { cls := .type "tuple", dict := dct, data := .seq its n, slots := sl } ∧ R (.ok (.ret (.ref (s.heap.push (pdTI l)).objs.size))) { s with heap := (s.heap.push (pdTI l)).push (pdEn s.heap.objs.size) }) :=
  .of_wp fun prog w A R ⟨hp, g, d, tk, os⟩ ⟨hl, h⟩ => by
    have hs := sub_enumerate
    have hT : Heap.IsTuple (Shared.heap ⟨hp, g, d, tk, os⟩) l its := ⟨_, hl, rfl, n, rfl⟩
    wp_walk using wpAny_loadPart' hl
    refine wpAny_stack_any fun _ => wpAny_pure ?_
    split
    · rename_i c _ _ _ _ _
      cases (c == Value.type "enumerate")
      all_goals
        wp_walk using wpAny_loadPart' hl, wpAny_pyIter_tuple hT
        exact ⟨_, rfl, h⟩
    · wp_walk using wpAny_loadPart' hl, wpAny_pyIter_tuple hT
      exact ⟨_, rfl, h⟩
theorem pd_call {prog : Program} {w : World} {A : Around} {E : Value → Shared → Prop} {s : Shared} {l : Addr} {its : Array Value} {Q : Value → Shared → Prop} (p : s.heap.IsTuple l its)
    (h : ∀ h', IsEnum h' (s.heap.objs.size + 1) s.heap.objs.size 0 .none → h'.IsTupleIter s.heap.objs.size l 0 → (∀ b o, s.heap.get? b = some o → h'.get? b = some o) → Q (.ref (s.heap.objs.size + 1)) { s with heap := h' }) :
    wpAny (model prog w) A (call (.type "enumerate") [.ref l]) Q E s := by
  obtain ⟨⟨c, dct, dt, sl⟩, hl, rfl, n, rfl⟩ := p
  refine callType_new F.called_enumerate (by decide) (F.typeCall_enumerate_1 _) (F.newCall_enumerate_1 _) (fun obj => F.args_object_init_2 obj _) F.entry_enumerate_new (pd_meets l its n dct sl) ⟨hl, ?_⟩
  have z : (s.heap.push (pdTI l)).objs.size = s.heap.objs.size + 1 := Heap.size_push ..
  have k : ((s.heap.push (pdTI l)).push (pdEn s.heap.objs.size)).get? (s.heap.objs.size + 1) = some (pdEn s.heap.objs.size) := by
    rw [← z]
    exact Heap.get?_push_size _ rfl
  show _ ∧ _
  rw [z]
  exact ⟨⟨_, k, rfl⟩, h _ k ⟨_, Heap.get?_push_of_some _ (Heap.get?_push_size _ rfl), rfl, rfl⟩ fun b o x => Heap.get?_push_of_some _ (Heap.get?_push_of_some _ x)⟩
end PySem
namespace PD
open PySem PySem.Spec PyProof.Rows L2
def iEnA (K : PySem.W.Frag) (ta : TA) : TI := fun σ H R => ta σ H fun vs H1 => ∃ a xs, vs = [.ref a] ∧ ((SqL K H1 a xs ∧ R (Ite K a) H1) ∨ (SqT K H1 a xs ∧ R (IteT K a) H1))
theorem pi_enA {X : Cx} {e : Expr} {ta : TA} {p pos tpos : Pos} {elts : List Expr} {kk : Nat} (hg : Gl X "enumerate") (hm : X.mg "enumerate" = none) (ha : PA X [e] ta) (hs : starEach [e] X.env = [(false, eval e X.env)]) :
    PI X (.Tuple elts kk tpos) (.Call (.Name "enumerate" p) [e] [] pos) (iEnA X.K ta) := by
  constructor
  intro pins s σ H R I h
  refine Call_ (ld_blt I hg hm boot_enumerate (PyProof.Rows.callWith_type1 (thn (ha.run pos pins s σ H _ I h) ?_) hs rfl))
  rintro us s1 ⟨vs, H1, I1, r1, a, xs, rfl, q⟩
  cases r1 with
  | cons r rr =>
    cases rr
    cases r
    have fp : ∀ b ∈ [s1.heap.objs.size + 1, s1.heap.objs.size], FpOk X pins H1 b := fun b hb => by
      have hle : s1.heap.objs.size ≤ b := by
        rcases List.mem_cons.mp hb with z | z
        · omega
        · have := List.mem_singleton.mp z; omega
      exact I1.fpOk hle (I1.hok.fresh hle)
    rcases q with ⟨hq, q⟩ | ⟨hq, q⟩
    · obtain ⟨its, _, p', _⟩ := I1.list hq
      refine call_enumerate_list p'.isList fun h' he hit _ hk => wpAny_pyIter_enum he ?_
      exact ⟨_, [s1.heap.objs.size + 1, s1.heap.objs.size], _, _, H1, rfl, I1.kept (t' := s1.toks) hk, turn_enum a _ _, ⟨⟨.none, he⟩, hit, Nat.succ_ne_self _⟩, fp, q⟩
    · obtain ⟨its, _, p', _⟩ := I1.tuple hq
      refine pd_call (show s1.heap.IsTuple a its.toArray from p') fun h' he hit hk => wpAny_pyIter_enum he ?_
      exact ⟨_, [s1.heap.objs.size + 1, s1.heap.objs.size], _, _, H1, rfl, I1.kept (t' := s1.toks) hk, turn_enT a _ _, ⟨⟨.none, he⟩, hit, Nat.succ_ne_self _⟩, fp, q⟩
/-! ### the data that they give -/
section
variable {G : Sg} {S : Sx} {T : Tab} {X : Cx} {L : Lo} {W : WX} {ex : ExI} {A₀ : Addr → Prop} {H₀ : Hp}
theorem enumFrom_len : ∀ (xs : List D) (i : Int), (enumFrom i xs).length = xs.length
  | [], _ => rfl
  | x :: xs, i => by rw [enumFrom, List.length_cons, List.length_cons, enumFrom_len xs]
theorem enumFrom_get : ∀ (xs : List D) (lo : Int) (i : Nat), (enumFrom lo xs)[i]? = (xs[i]?).map fun x => .tup [.int (lo + i), x]
  | [], _, _ => by simp [enumFrom]
  | x :: xs, lo, 0 => by simp [enumFrom]
  | x :: xs, lo, i + 1 => by
    rw [enumFrom, List.getElem?_cons_succ, List.getElem?_cons_succ, enumFrom_get xs (lo + 1) i]
    congr 1
    funext x
    rw [show lo + 1 + (i : Int) = lo + ((i + 1 : Nat) : Int) by omega]
theorem new_same {H : Hp} {p : Addr} {o : HO} (h : H p = none) : Same H (upd H p o) := fun b u e => by
  rw [upd_ne (ne_of_none e h)]; exact e
theorem its_enL {K : PySem.W.Frag} {p : Addr} {ds : List D} (d : D) (h : ∀ A H, Has G A H (.ref p) d → ∃ xs, SqL K H p xs ∧ HasL G A H xs ds) : Its G (Ite K p) (enumFrom 0 ds) [(.ref p, d)] where
  go := fun A H i e hp he => by
    obtain ⟨xs, h1, h3⟩ := h A H (hp _ List.mem_cons_self)
    rw [enumFrom_get] at he
    obtain ⟨y, hy, rfl⟩ := Option.map_eq_some_iff.mp he
    obtain ⟨v, e1, e2⟩ := h3.get hy
    refine ⟨⟨xs, v, h1, e1⟩, fun x H' ⟨Z, w, ex, hn, eH, hx⟩ => ?_⟩
    have := hx xs h1
    rw [e1] at this
    cases this
    subst eH ex
    refine ⟨new_same hn, .tup upd_same (.cons ?_ (.cons (e2.here.to (new_same hn) fun _ z _ => z) .nil))⟩
    rw [Int.zero_add]
    exact .int _
  stop := fun A H i hp he => by
    obtain ⟨xs, h1, h3⟩ := h A H (hp _ List.mem_cons_self)
    rw [enumFrom_len] at he
    exact ⟨xs, h1, by rw [h3.length]; exact he⟩
theorem its_enT {K : PySem.W.Frag} {p : Addr} {ds : List D} : Its G (IteT K p) (enumFrom 0 ds) [(.ref p, .tup ds)] where
  go := fun A H i e hp he => by
    have h := hp _ List.mem_cons_self
    cases h with
    | @tup _ xs _ h1 h3 =>
      rw [enumFrom_get] at he
      obtain ⟨y, hy, rfl⟩ := Option.map_eq_some_iff.mp he
      obtain ⟨v, e1, e2⟩ := h3.get hy
      refine ⟨⟨_, v, .of h1, e1⟩, fun x H' ⟨Z, w, ex, hn, eH, hx⟩ => ?_⟩
      have := hx _ (.of h1)
      rw [e1] at this
      cases this
      subst eH ex
      refine ⟨new_same hn, .tup upd_same (.cons ?_ (.cons (e2.here.to (new_same hn) fun _ z _ => z) .nil))⟩
      rw [Int.zero_add]
      exact .int _
  stop := fun A H i hp he => by
    have h := hp _ List.mem_cons_self
    cases h with
    | tup h1 h3 =>
      rw [enumFrom_len] at he
      exact ⟨_, .of h1, by rw [h3.length]; exact he⟩
theorem si_en {a : Ex} {e : Expr} {elts : List Expr} {kk : Nat} {p pos tpos : Pos} (P : PX G S T X L W ex) (hf : ("enumerate" : Str) ∈ S.free) (hg : Gl X "enumerate") (hs : notStar e = true) (ha : PE X e (tD G T W ex A₀ H₀ a)) :
    PI X (.Tuple elts kk tpos) (.Call (.Name "enumerate" p) [e] [] pos) (tI G T W ex A₀ H₀ (.en a)) := by
  refine PI.of (pi_enA hg (P.free _ hf) (pa_cons ha pa_nil (star_no hs _ _)) (star_no hs _ _)) fun σ H Q ⟨A, O, ρ, er, h⟩ => ?_
  rw [evIt] at h
  have h : outI G W (wi A O (roots a)) σ H ((ev T a ρ).bind fun x => (itemsD x).bind fun xs => .ok (enumFrom 0 xs)) Q := h
  refine seq1I er h fun x v H1 _ s1 hv er1 h1 => ?_
  cases hv with
  | @tup p xs ds k1 k2 =>
    refine ⟨p, _, rfl, .inr ⟨.of k1, ?_⟩⟩
    exact h1 _ H1 [(.ref p, .tup ds)] (Same.refl H1) its_enT fun q hq => by
      rw [List.mem_singleton] at hq
      subst hq
      exact .tup k1 (k2.mono (fun _ z => .inl z) (Same.refl _))
  | @lst p xs ds k0 k1 k2 =>
    refine ⟨p, _, rfl, .inl ⟨.of k1, ?_⟩⟩
    exact h1 _ H1 [(.ref p, .lst ds)] (Same.refl H1) (its_enL (.lst ds) fun A H h => by
      cases h with
      | lst j0 j1 j2 => exact ⟨_, .of j1, j2⟩) fun q hq => by
      rw [List.mem_singleton] at hq
      subst hq
      exact .lst (.inl k0) k1 (k2.mono (fun _ z => .inl z) (Same.refl _))
  | @scr p xs ds k1 k2 =>
    refine ⟨p, _, rfl, .inl ⟨k1.sq P.hG, ?_⟩⟩
    exact h1 _ H1 [(.ref p, .scr ds)] (Same.refl H1) (its_enL (.scr ds) fun A H h => by
      cases h with
      | scr j1 j2 => exact ⟨_, j1.sq P.hG, j2⟩) fun q hq => by
      rw [List.mem_singleton] at hq
      subst hq
      exact .scr k1 (k2.mono (fun _ z => .inl z) (Same.refl _))
  | _ => exact (show False from h1).elim
theorem zipD_get : ∀ (xs ys : List D) (i : Nat) (d : D), (zipD xs ys)[i]? = some d → ∃ x y, xs[i]? = some x ∧ ys[i]? = some y ∧ d = .tup [x, y]
  | x :: xs, y :: ys, 0, d, h => by
    rw [zipD, List.getElem?_cons_zero] at h
    exact ⟨x, y, rfl, rfl, (Option.some.inj h).symm⟩
  | x :: xs, y :: ys, i + 1, d, h => by
    rw [zipD, List.getElem?_cons_succ] at h
    rw [List.getElem?_cons_succ, List.getElem?_cons_succ]
    exact zipD_get xs ys i d h
  | [], ys, i, d, h => by simp [zipD] at h
  | x :: xs, [], i, d, h => by simp [zipD] at h
theorem zipD_len : ∀ (xs ys : List D) (i : Nat), (zipD xs ys).length ≤ i → xs.length ≤ i ∨ ys.length ≤ i
  | x :: xs, y :: ys, 0, h => by rw [zipD, List.length_cons] at h; omega
  | x :: xs, y :: ys, i + 1, h => by
    rw [zipD, List.length_cons] at h
    rw [List.length_cons, List.length_cons]
    exact (zipD_len xs ys i (by omega)).imp Nat.succ_le_succ Nat.succ_le_succ
  | [], ys, i, h => .inl (Nat.zero_le i)
  | x :: xs, [], i, h => .inr (Nat.zero_le i)
theorem its_zpL {K : PySem.W.Frag} {p p2 : Addr} {ds es : List D} : Its G (Itz K p p2) (zipD ds es) [(.ref p, .lst ds), (.ref p2, .lst es)] where
  go := fun A H i e hp he => by
    have h := hp _ List.mem_cons_self
    have k := hp (.ref p2, .lst es) (by simp)
    obtain ⟨x, y, hx, hy, rfl⟩ := zipD_get _ _ _ _ he
    cases h with
    | @lst _ xs _ _ h1 h3 =>
      cases k with
      | @lst _ ys _ _ k1 k3 =>
        obtain ⟨v, e1, e2⟩ := h3.get hx
        obtain ⟨w, f1, f2⟩ := k3.get hy
        refine ⟨⟨xs, ys, v, w, .of h1, .of k1, e1, f1⟩, fun z H' ⟨Z, a, b, ex, hn, eH, ha, hb⟩ => ?_⟩
        have a1 := ha xs (.of h1)
        have b1 := hb ys (.of k1)
        rw [e1] at a1
        rw [f1] at b1
        cases a1
        cases b1
        subst eH ex
        exact ⟨new_same hn, .tup upd_same (.cons (e2.here.to (new_same hn) fun _ z _ => z) (.cons (f2.here.to (new_same hn) fun _ z _ => z) .nil))⟩
  stop := fun A H i hp he => by
    have h := hp _ List.mem_cons_self
    have k := hp (.ref p2, .lst es) (by simp)
    cases h with
    | lst _ h1 h3 =>
      cases k with
      | lst _ k1 k3 => exact ⟨_, _, .of h1, .of k1, by rw [h3.length, k3.length]; exact zipD_len _ _ _ he⟩
theorem its_zpT {K : PySem.W.Frag} {p p2 : Addr} {ds es : List D} : Its G (RZ.ItzT K p p2) (zipD ds es) [(.ref p, .tup ds), (.ref p2, .tup es)] where
  go := fun A H i e hp he => by
    have h := hp _ List.mem_cons_self
    have k := hp (.ref p2, .tup es) (by simp)
    obtain ⟨x, y, hx, hy, rfl⟩ := zipD_get _ _ _ _ he
    cases h with
    | @tup _ xs _ h1 h3 =>
      cases k with
      | @tup _ ys _ k1 k3 =>
        obtain ⟨v, e1, e2⟩ := h3.get hx
        obtain ⟨w, f1, f2⟩ := k3.get hy
        refine ⟨⟨xs, ys, v, w, .of h1, .of k1, e1, f1⟩, fun z H' ⟨Z, a, b, ex, hn, eH, ha, hb⟩ => ?_⟩
        have a1 := ha xs (.of h1)
        have b1 := hb ys (.of k1)
        rw [e1] at a1
        rw [f1] at b1
        cases a1
        cases b1
        subst eH ex
        exact ⟨new_same hn, .tup upd_same (.cons (e2.here.to (new_same hn) fun _ z _ => z) (.cons (f2.here.to (new_same hn) fun _ z _ => z) .nil))⟩
  stop := fun A H i hp he => by
    have h := hp _ List.mem_cons_self
    have k := hp (.ref p2, .tup es) (by simp)
    cases h with
    | tup h1 h3 =>
      cases k with
      | tup k1 k3 => exact ⟨_, _, .of h1, .of k1, by rw [h3.length, k3.length]; exact zipD_len _ _ _ he⟩
theorem si_zp {a b : Ex} {e e2 : Expr} {elts : List Expr} {kk : Nat} {p pos tpos : Pos} (P : PX G S T X L W ex) (hf : ("zip" : Str) ∈ S.free) (hg : Gl X "zip") (hs : notStar e = true) (hs2 : notStar e2 = true) (ha : PE X e (tD G T W ex A₀ H₀ a)) (hb : PE X e2 (tD G T W ex A₀ H₀ b)) :
    PI X (.Tuple elts kk tpos) (.Call (.Name "zip" p) [e, e2] [] pos) (tI G T W ex A₀ H₀ (.zp a b)) := by
  refine PI.of (RZ.pi_zipA hg (P.free _ hf) (pa_cons ha (pa_cons hb pa_nil (star_no hs2 _ _)) (star_no hs _ _)) (star_no hs _ _) (by rw [star_no hs2]; rfl)) fun σ H Q ⟨A, O, ρ, er, h⟩ => ?_
  rw [evIt] at h
  have h : outI G W (wi A O (roots a ++ roots b)) σ H ((ev T a ρ).bind fun x => (ev T b ρ).bind fun y => zipOf x y) Q := h
  refine seq1I er h fun x v H1 _ s1 hv er1 h1 => ?_
  refine seq1I er1 h1 fun y w H2 _ s2 hw er2 h2 => ?_
  have up1 : ∀ q, fr (wi A O (roots a)) H q → (H1 q).isSome = true → fr (fr (wi A O (roots a ++ roots b)) H) H1 q := fun q z _ => .inl (by
    rcases z with z | z
    · exact .inl (z.imp id fun ⟨j, hj, k⟩ => ⟨j, List.mem_append_left _ hj, k⟩)
    · exact .inr z)
  have up2 : ∀ q, fr (wi (fr A H) O (roots b)) H1 q → (H2 q).isSome = true → fr (fr (wi A O (roots a ++ roots b)) H) H1 q := fun q z _ => by
    rcases z with z | z
    · rcases z with z | ⟨j, hj, k⟩
      · rcases z with z | z
        · exact .inl (.inl (.inl z))
        · exact .inl (.inr z)
      · exact .inl (.inl (.inr ⟨j, List.mem_append_right _ hj, k⟩))
    · exact .inr z
  have hv2 := hv.to s2 up1
  have hw2 := hw.to (Same.refl H2) up2
  cases hv2 with
  | @tup p1 xs ds k1 k2 =>
    cases hw2 with
    | @tup p2 ys es j1 j2 =>
      refine ⟨p1, p2, xs, ys, rfl, .inr ⟨.of k1, .of j1, ?_⟩⟩
      exact h2 _ H2 [(.ref p1, .tup ds), (.ref p2, .tup es)] (Same.refl H2) its_zpT fun q hq => by
        rcases List.mem_cons.mp hq with rfl | hq
        · exact (Has.tup k1 k2).to (Same.refl H2) fun _ z _ => .inl z
        · rw [List.mem_singleton] at hq
          subst hq
          exact (Has.tup j1 j2).to (Same.refl H2) fun _ z _ => .inl z
    | _ => exact (show False from h2).elim
  | @lst p1 xs ds k0 k1 k2 =>
    cases hw2 with
    | @lst p2 ys es j0 j1 j2 =>
      refine ⟨p1, p2, xs, ys, rfl, .inl ⟨.of k1, .of j1, ?_⟩⟩
      exact h2 _ H2 [(.ref p1, .lst ds), (.ref p2, .lst es)] (Same.refl H2) its_zpL fun q hq => by
        rcases List.mem_cons.mp hq with rfl | hq
        · exact (Has.lst k0 k1 k2).to (Same.refl H2) fun _ z _ => .inl z
        · rw [List.mem_singleton] at hq
          subst hq
          exact (Has.lst j0 j1 j2).to (Same.refl H2) fun _ z _ => .inl z
    | _ => exact (show False from h2).elim
  | _ => exact (show False from h2).elim
end
end PD
end

section
set_option Elab.async false
set_option linter.all false
set_option maxRecDepth 100000
set_option maxHeartbeats 4000000
/-! PD, part 12: statements. -/
namespace PD
open PySem PySem.Spec PyProof.Rows L2
/-- shared data stay as they are -/
def Keep (G : Sg) (A : Addr → Prop) (H : Hp) (A' : Addr → Prop) (H' : Hp) : Prop := ∀ v d, Has G A H v d → Has G A' H' v d
section
variable {G : Sg} {ex : ExI} {A₀ : Addr → Prop} {H₀ : Hp} {A : Addr → Prop} {O : Ow} {σ : L2.St} {H H' : Hp} {ρ : Env}
theorem Keep.refl : Keep G A H A H := fun _ _ h => h
theorem Keep.trans {A1 A2 A3 : Addr → Prop} {H1 H2 H3 : Hp} (a : Keep G A1 H1 A2 H2) (b : Keep G A2 H2 A3 H3) : Keep G A1 H1 A3 H3 := fun v d h => b v d (a v d h)
theorem Keep.of (s : Same H H') {A' : Addr → Prop} (h : ∀ q, A q → (H q).isSome = true → A' q) : Keep G A H A' H' := fun v d x => x.to s h
theorem keepL {A1 A2 : Addr → Prop} {H1 H2 : Hp} (k : Keep G A1 H1 A2 H2) {vs : List V} {ds : List D} (h : HasL G A1 H1 vs ds) : HasL G A2 H2 vs ds :=
  hasL_of h.length fun i v d e1 e2 => by
    obtain ⟨d', e3, h3⟩ := h.getV e1
    rw [e2] at e3
    cases e3
    exact k v d h3
/-- an object of a name's own is written -/
theorem ER.wr {i : Nat} {v : V} {o' : OD} {p : Addr} {ho : HO} {Oi : Nat → Addr → Prop} (er : ER G ex A₀ H₀ A O σ H ρ) (hv : σ[i]? = some (some v)) (hp : ∃ k, O i k p) (mu : Mut (H p)) (nx : ∀ fs, H p ≠ some (.xd fs)) (hs : SlotOk G ex A Oi (upd H p ho) v o')
    (h1 : ∀ k q, Oi k q → O i k q ∨ (¬ A q ∧ (H q).isSome = true ∧ H₀ q = none ∧ ∀ j k', ¬ O j k' q)) (h3 : ∀ k k' q, Oi k q → Oi k' q → k = k') :
    ER G ex A₀ H₀ A (fun j k q => (j = i ∧ Oi k q) ∨ (j ≠ i ∧ O j k q)) σ (upd H p ho) (ρ.set i (some o')) := by
  obtain ⟨k0, hp⟩ := hp
  have nA := (er.own _ _ _ hp).1
  have n0 := (er.own _ _ _ hp).2.2
  have up : ∀ q, (H q).isSome = true → ((upd H p ho) q).isSome = true := fun q z => by
    by_cases e : q = p
    · subst e
      rw [upd_same]
      rfl
    · rw [upd_ne e]
      exact z
  have nOj : ∀ j k, j ≠ i → ¬ O j k p := fun j k hj z => hj (er.uniq _ _ _ _ _ z hp).1
  refine ⟨by rw [List.length_set]; exact er.len, fun j o e => ?_, fun j k q h => ?_, fun j k j' k' q h h' => ?_, er.sub, fun b x e => ?_⟩
  · by_cases h : i = j
    · subst h
      have hl : i < ρ.length := by
        have z := (List.getElem?_eq_some_iff.mp e).1
        rw [List.length_set] at z
        exact z
      rw [List.getElem?_set_self hl] at e
      cases e
      exact ⟨v, hv, hs.to (Same.refl _) (fun _ z _ => z) fun _ _ z => .inl ⟨rfl, z⟩⟩
    · rw [List.getElem?_set_ne h] at e
      obtain ⟨v', e3, e4⟩ := er.slot j o e
      exact ⟨v', e3, (e4.upd mu nx nA fun k => nOj j k fun z => h z.symm).to (Same.refl _) (fun _ z _ => z) fun _ _ z => .inr ⟨fun q => h q.symm, z⟩⟩
  · rcases h with ⟨rfl, h⟩ | ⟨_, h⟩
    · rcases h1 k q h with z | ⟨a, b, c, _⟩
      · obtain ⟨a, b, c⟩ := er.own _ _ _ z
        exact ⟨a, up q b, c⟩
      · exact ⟨a, up q b, c⟩
    · obtain ⟨a, b, c⟩ := er.own _ _ _ h
      exact ⟨a, up q b, c⟩
  · rcases h with ⟨e1, h⟩ | ⟨e1, h⟩ <;> rcases h' with ⟨e2, h'⟩ | ⟨e2, h'⟩
    · exact ⟨e1.trans e2.symm, h3 k k' q h h'⟩
    · rcases h1 k q h with z | ⟨_, _, _, z⟩
      · exact absurd (er.uniq _ _ _ _ _ z h').1.symm e2
      · exact absurd h' (z _ _)
    · rcases h1 k' q h' with z | ⟨_, _, _, z⟩
      · exact absurd (er.uniq _ _ _ _ _ z h).1.symm e1
      · exact absurd h (z _ _)
    · exact er.uniq _ _ _ _ _ h h'
  · rw [upd_ne (fun z => by subst z; rw [n0] at e; cases e)]
    exact er.same b x e
theorem Keep.wr {p : Addr} {ho : HO} (mu : Mut (H p)) (nA : ¬ A p) : Keep G A H A (upd H p ho) := fun v d h => h.upd mu nA
/-- behind the value of e: what it stands on is no name's own -/
theorem ER.keep {rs : List Nat} {x : D} {v : V} {f : Bool} (er : ER G ex A₀ H₀ A O σ H ρ) (s : Same H H') (hv : Has G (fr (wi A O rs) H) H' v x) (P : Addr → Prop) (hP : ∀ q, P q → (H q).isSome = true → False) :
    ∃ B O', ER G ex A₀ H₀ B O' σ H' (keepR ρ rs x) ∧ Keep G A H B H' ∧ (∀ q, fr (wi A O rs) H q → ¬ P q → B q ∨ froz x = true) ∧ (∀ q, P q → ¬ B q) ∧ (∀ j k q, O' j k q → O j k q) := by
  unfold keepR
  cases fx : froz x with
  | true =>
    refine ⟨fun q => fr A H q ∧ ¬ P q, O, er.move s (fun q z zs => ⟨.inl z, fun p => hP q p zs⟩) fun q z => z.1, Keep.of s fun q z zs => ⟨.inl z, fun p => hP q p zs⟩, fun _ _ _ => .inr rfl, fun q p z => z.2 p, fun _ _ _ z => z⟩
  | false =>
    refine ⟨fun q => fr (wi A O rs) H q ∧ ¬ P q, _, (er.un rs).move s (fun q z zs => ⟨.inl z, fun p => hP q p zs⟩) fun q z => z.1, Keep.of s fun q z zs => ⟨.inl (.inl z), fun p => hP q p zs⟩, fun q z n => .inl ⟨z, n⟩, fun q p z => z.2 p, fun _ _ _ z => z.1⟩
/-- .. the value is shared data -/
theorem ER.keepV {rs : List Nat} {x : D} {v : V} (er : ER G ex A₀ H₀ A O σ H ρ) (s : Same H H') (hv : Has G (fr (wi A O rs) H) H' v x) : ∃ B O', ER G ex A₀ H₀ B O' σ H' (keepR ρ rs x) ∧ Keep G A H B H' ∧ Has G B H' v x ∧ (∀ j k q, O' j k q → O j k q) := by
  obtain ⟨B, O', h1, h2, h3, _, h5⟩ := er.keep (f := false) s hv (fun _ => False) fun _ z _ => z
  refine ⟨B, O', h1, h2, ?_, h5⟩
  cases fx : froz x with
  | true => exact Has.froz fx hv
  | false => exact hv.mono (fun q z => (h3 q z fun z => z).elim id fun z => absurd z (by rw [fx]; exact Bool.false_ne_true)) (Same.refl _)
end

/-! ### what comes of a statement -/
def outS (G : Sg) (W : WX) (ex : ExI) (A₀ : Addr → Prop) (H₀ : Hp) (q : Bool) (A : Addr → Prop) (σ : L2.St) (H : Hp) (r : R Fl) (Z : Ends) : Prop := match r with
  | .ok (.nx ρ') => ∀ A' O' σ' H', ER G ex A₀ H₀ A' O' σ' H' ρ' → Keep G A H A' H' → Z.nx σ' H'
  | .ok (.bk ρ') => ∀ A' O' σ' H', ER G ex A₀ H₀ A' O' σ' H' ρ' → Keep G A H A' H' → Z.bk σ' H'
  | .ok (.ct ρ') => ∀ A' O' σ' H', ER G ex A₀ H₀ A' O' σ' H' ρ' → Keep G A H A' H' → Z.ct σ' H'
  | .ok (.rt d ρ') => ∀ v A' O' σ' H', ER G ex A₀ H₀ A' O' σ' H' ρ' → Keep G A H A' H' → Has G A' H' v d → Z.rt v H'
  | .exc x => ∀ cls dx σ' H', Same H₀ H' → (q = true → σ' = σ ∧ Same H H') → XR G H' x cls dx → W cls dx σ' H'
  | .stk => False
def tS (G : Sg) (T : Tab) (W : WX) (ex : ExI) (A₀ : Addr → Prop) (H₀ : Hp) (q : Bool) (st : St) : TS := fun Z σ H => ∃ A O ρ, ER G ex A₀ H₀ A O σ H ρ ∧ outS G W ex A₀ H₀ q A σ H (rn T st ρ) Z
def tSs (G : Sg) (T : Tab) (W : WX) (ex : ExI) (A₀ : Addr → Prop) (H₀ : Hp) (q : Bool) (st : Sts) : TS := fun Z σ H => ∃ A O ρ, ER G ex A₀ H₀ A O σ H ρ ∧ outS G W ex A₀ H₀ q A σ H (rns T st ρ) Z
/-- in a def's body -/
structure PY (G : Sg) (S : Sx) (T : Tab) (X : Cx) (L : Lo) (W : WX) (ex : ExI) : Prop where
  px : PX G S T X L W ex
  pass : L.cm = true → PassesOwn (model X.prog X.w) X.A X.env X.xe
  hE : ∀ k, k < S.ename.length → ExcC X.K (G.ea k)
  hN : ∀ k, S.nx ≤ k → k < S.ename.length → PySem.W.findIn X.K (.ref (G.ea k)) (G.ef k) = some none
  hs : L.cm = true → X.stack = X.env :: X.outer
  hf : L.cm = true → X.env.frame = some X.env.locals
section
variable {G : Sg} {S : Sx} {T : Tab} {X : Cx} {L : Lo} {W : WX} {ex : ExI} {A₀ : Addr → Prop} {H₀ : Hp} {q : Bool}
theorem PS.of {e : Stmt} {t t' : TS} (h : PS X e t) (w : ∀ Z σ H, t' Z σ H → t Z σ H) : PS X e t' := ⟨fun pins s σ H Z I q => h.run pins s σ H Z I (w Z σ H q)⟩
theorem PSs.of {e : List Stmt} {t t' : TS} (h : PSs X e t) (w : ∀ Z σ H, t' Z σ H → t Z σ H) : PSs X e t' := ⟨fun pins s σ H Z I q => h.run pins s σ H Z I (w Z σ H q)⟩
/-- an expression at a statement's head -/
theorem seqE {a : Ex} {A : Addr → Prop} {O : Ow} {σ : L2.St} {H : Hp} {ρ : Env} {g : D → R Fl} {Z : Ends} {R : V → Hp → Prop} (er : ER G ex A₀ H₀ A O σ H ρ) (h : outS G W ex A₀ H₀ q A σ H ((ev T a ρ).bind g) Z)
    (k : ∀ x v H1, ev T a ρ = .ok x → Same H H1 → Has G (fr (wi A O (roots a)) H) H1 v x → (frs a = true → Own1 G (wi A O (roots a)) H H1 v x) → outS G W ex A₀ H₀ q A σ H (g x) Z → R v H1) : tD G T W ex A₀ H₀ a σ H R := by
  refine ⟨A, O, ρ, er, ?_⟩
  cases e : ev T a ρ with
  | stk => rw [e] at h; exact h
  | exc x =>
    rw [e] at h
    exact fun cls dx H2 s2 r => h cls dx σ H2 (same_tr er.same s2) (fun _ => ⟨rfl, s2⟩) r
  | ok x =>
    rw [e] at h
    exact fun v H1 s1 hv o => k x v H1 e s1 hv o h
/-- leaving the start aside -/
theorem outS_up {A A1 : Addr → Prop} {σ σ1 : L2.St} {H H1 : Hp} {r : R Fl} {Z : Ends} (k : Keep G A H A1 H1) (hq : q = true → σ1 = σ ∧ Same H H1) (h : outS G W ex A₀ H₀ q A σ H r Z) : outS G W ex A₀ H₀ q A1 σ1 H1 r Z := by
  cases r with
  | stk => exact h
  | exc x => exact fun cls dx σ' H' s hs xr => h cls dx σ' H' s (fun z => ⟨(hs z).1.trans (hq z).1, same_tr (hq z).2 (hs z).2⟩) xr
  | ok f =>
    cases f with
    | nx ρ => exact fun A' O' σ' H' er kk => h A' O' σ' H' er (k.trans kk)
    | bk ρ => exact fun A' O' σ' H' er kk => h A' O' σ' H' er (k.trans kk)
    | ct ρ => exact fun A' O' σ' H' er kk => h A' O' σ' H' er (k.trans kk)
    | rt d ρ => exact fun v A' O' σ' H' er kk hv => h v A' O' σ' H' er (k.trans kk) hv
/-! name = value -/
theorem asg_step {i : Nat} {e : Ex} {Z : Ends} {σ : L2.St} {H : Hp} (h : tS G T W ex A₀ H₀ q (.asg (.n i) e) Z σ H) : tAsg (tD G T W ex A₀ H₀ e) (gName i) Z σ H := by
  obtain ⟨A, O, ρ, er, h⟩ := h
  rw [rn] at h
  refine seqE er h fun x v H1 _ s1 hv ho h1 => ?_
  cases c : decide (i < ρ.length) with
  | false => rw [c] at h1; exact h1.elim
  | true =>
    rw [c] at h1
    have hi := of_decide_eq_true c
    have h1 : ∀ A' O' σ' H', ER G ex A₀ H₀ A' O' σ' H' ((keepN (frs e) ρ (roots e) x).set i (some (.f (ownO (frs e) x)))) → Keep G A H A' H' → Z.nx σ' H' := h1
    have sh_ : ownO (frs e) x = .sh x → keepN (frs e) ρ (roots e) x = keepR ρ (roots e) x → Z.nx (σ.set i (some v)) H1 := fun eo eK => by
      rw [eo, eK] at h1
      obtain ⟨B, O', er2, k2, hv2, _⟩ := er.keepV s1 hv
      exact h1 _ _ _ _ (er2.setSh hv2) k2
    cases ef : frs e with
    | false => exact sh_ (by rw [ef]; rfl) (by rw [ef]; rfl)
    | true =>
      cases x with
      | lst ds =>
        obtain ⟨p, xs, rfl, hp, hl, hh⟩ := ho ef
        rw [ef] at h1
        cases hz : frozs ds with
        | false =>
          have eK : keepN true ρ (roots e) (.lst ds) = keepR ρ (roots e) (.lst ds) := by
            show keepRs ρ (roots e) ds = keepR ρ (roots e) (.lst ds)
            unfold keepRs keepR
            rw [hz]; rfl
          rw [eK] at h1
          obtain ⟨B, O', er2, k2, b1, b2, b3⟩ := er.keep (f := true) s1 hv (fun q => q = p) fun q z zs => by
            subst z
            rw [hp] at zs
            cases zs
          refine h1 _ _ _ _ (er2.set (o := .f (.ol ds)) (Oi := fun k q => k = 0 ∧ q = p) ⟨p, xs, rfl, ⟨rfl, rfl⟩, hl, hh.mono (fun q z => ?_) (Same.refl _)⟩ (fun k q z => ?_) (fun k q j k' z hj zz => ?_) fun k k' q z z' => by rw [z.1, z'.1]) k2
          · exact (b1 q z.1 z.2).elim id fun z => by rw [froz] at z; cases z
          · obtain ⟨_, rfl⟩ := z
            exact ⟨b2 q rfl, by rw [hl]; rfl, same_none er.same hp⟩
          · obtain ⟨_, rfl⟩ := z
            have := (er.own _ _ _ (b3 _ _ _ zz)).2.1
            rw [hp] at this
            cases this
        | true =>
          have eK : keepN true ρ (roots e) (.lst ds) = ρ := by
            show keepRs ρ (roots e) ds = ρ
            unfold keepRs
            rw [hz]
          rw [eK] at h1
          have np : ∀ q, (H q).isSome = true → q ≠ p := fun q zs e => by
            subst e
            rw [hp] at zs
            cases zs
          have er2 := er.move s1 (B := fun q => fr A H q ∧ q ≠ p) (fun q z zs => ⟨.inl z, np q zs⟩) fun q z => z.1
          refine h1 _ _ _ _ (er2.set (o := .f (.ol ds)) (Oi := fun k q => k = 0 ∧ q = p) ⟨p, xs, rfl, ⟨rfl, rfl⟩, hl, HasL.froz hz hh⟩ (fun k q z => ?_) (fun k q j k' z hj zz => ?_) fun k k' q z z' => by rw [z.1, z'.1]) (Keep.of s1 fun q z zs => ⟨.inl z, np q zs⟩)
          · obtain ⟨_, rfl⟩ := z
            exact ⟨fun z => z.2 rfl, by rw [hl]; rfl, same_none er.same hp⟩
          · obtain ⟨_, rfl⟩ := z
            have := (er.own _ _ _ zz).2.1
            rw [hp] at this
            cases this
      | dct t kvs =>
        obtain ⟨p, rfl, hp, hl⟩ := ho ef
        have hss : (H1 p).isSome = true := by
          cases t with
          | true => obtain ⟨kv, z, _⟩ := hl; rw [z]; rfl
          | false => obtain ⟨kv, z, _⟩ := hl; rw [z]; rfl
        obtain ⟨B, O', er2, k2, b1, b2, b3⟩ := er.keep (f := true) s1 hv (fun q => q = p) fun q z zs => by
          subst z
          rw [hp] at zs
          cases zs
        rw [ef] at h1
        refine h1 _ _ _ _ (er2.set (o := .f (.od t kvs)) (Oi := fun k q => k = 0 ∧ q = p) ⟨p, rfl, ⟨rfl, rfl⟩, ?_⟩ (fun k q z => ?_) (fun k q j k' z hj zz => ?_) fun k k' q z z' => by rw [z.1, z'.1]) k2
        · cases t with
          | true => obtain ⟨kv, z1, z2, z3⟩ := hl; exact ⟨kv, z1, z2, z3.mono (fun _ z => z.elim) (Same.refl _)⟩
          | false => obtain ⟨kv, z1, z2, z3⟩ := hl; exact ⟨kv, z1, z2, z3.mono (fun _ z => z.elim) (Same.refl _)⟩
        · obtain ⟨_, rfl⟩ := z
          exact ⟨b2 q rfl, hss, same_none er.same hp⟩
        · obtain ⟨_, rfl⟩ := z
          have := (er.own _ _ _ (b3 _ _ _ zz)).2.1
          rw [hp] at this
          cases this
      | _ => exact sh_ (by rw [ef]; rfl) (by rw [ef]; rfl)
def notComp : Expr → Bool
  | .ListComp _ _ _ _ => false
  | .SetComp _ _ _ _ => false
  | .DictComp _ _ _ _ _ => false
  | _ => true
theorem swaps_no {e : Expr} (h : notComp e = true) (t : Option Expr) (l : Nat) (env : PySem.Env) : swapsWith e t l env = pure false := by
  cases e <;> first
    | exact absurd h Bool.false_ne_true
    | rfl
theorem ss_set {i : Nat} {x : Str} {e : Ex} {ee : Expr} {p pos : Pos} (P : PX G S T X L W ex) (hi : X.N[i]? = some x) (hx : Loc X.env.scope x) (hf : X.fn x = true ∨ X.env.scope.names.lookup x = some .local) (he : PE X ee (tD G T W ex A₀ H₀ e)) (hs : swapsWith ee (some (.Name x p)) pos.line X.env = pure false) :
    PS X (.Assign [.Name x p] ee pos) (tS G T W ex A₀ H₀ q (.asg (.n i) e)) := PS.of (ps_set (by rw [P.nm]; exact P.nd) hi hx he hs hf) fun _ _ _ h => asg_step h
end
end PD
end

section
set_option Elab.async false
set_option linter.all false
set_option maxRecDepth 100000
set_option maxHeartbeats 4000000
/-! PD, part 13: statements: stores, tests, loops, ends. -/
namespace PD
open PySem PySem.Spec PyProof.Rows L2
section
variable {G : Sg} {S : Sx} {T : Tab} {X : Cx} {L : Lo} {W : WX} {ex : ExI} {A₀ : Addr → Prop} {H₀ : Hp} {q : Bool}
/-! (a, b) = value -/
theorem asgT_step {gs : Tgs} {e : Ex} {Z : Ends} {σ : L2.St} {H : Hp} (h : tS G T W ex A₀ H₀ q (.asg (.t gs) e) Z σ H) : tAsg (tD G T W ex A₀ H₀ e) (tG G ex A₀ H₀ (.t gs)) Z σ H := by
  obtain ⟨A, O, ρ, er, h⟩ := h
  rw [rn] at h
  · refine seqE er h fun x v H1 _ s1 hv ho h1 => ?_
    obtain ⟨B, O', er2, k2, hv2, _⟩ := er.keepV s1 hv
    refine ⟨B, O', _, x, er2, hv2, ?_⟩
    cases eb : bindT (.t gs) x (keepR ρ (roots e) x) with
    | stk => rw [eb] at h1; exact h1
    | exc z => rw [eb] at h1; exact (bindT_exc _ eb).elim
    | ok ρ' =>
      rw [eb] at h1
      exact fun O2 σ2 er3 _ _ => h1 _ _ _ _ er3 k2
  · intro i z
    cases z
theorem swaps_sole {t : Expr} {e : Expr} (h : notComp e = true) (l : Nat) (env : PySem.Env) : swapsWithSole [t] e l env = pure false := swaps_no h (some t) l env
theorem swaps_other {e : Expr} {t : Expr} (h : (match t with
    | .Name _ _ => false
    | _ => true) = true) (l : Nat) (env : PySem.Env) : swapsWith e (some t) l env = pure false := by
  cases t <;> first
    | exact absurd h Bool.false_ne_true
    | (cases e <;> rfl)
def notTup : Expr → Bool
  | .Tuple _ _ _ => false
  | _ => true
theorem swapped_no {ts : List Expr} {n : Nat} {p : Pos} {e : Expr} (h : notTup e = true) (env : PySem.Env) : swappedStores [.Tuple ts n p] e env = pure none := by
  cases e <;> first
    | exact absurd h Bool.false_ne_true
    | rfl
theorem ss_asgT {gs : Tgs} {e : Ex} {ts : List Expr} {n : Nat} {p pos : Pos} {ee : Expr} (hg : PG X (.Tuple ts n p) (tG G ex A₀ H₀ (.t gs))) (he : PE X ee (tD G T W ex A₀ H₀ e)) (h1 : notComp ee = true) (h2 : swappedStores [.Tuple ts n p] ee X.env = pure none) :
    PS X (.Assign [.Tuple ts n p] ee pos) (tS G T W ex A₀ H₀ q (.asg (.t gs) e)) := PS.of (ps_asg he hg (swaps_sole h1 _ _) h2 rfl) fun _ _ _ h => asgT_step h
/-! name = [..], stored within -/
theorem ss_setLc {own : List (Str × Nat)} {i : Nat} {y : Str} {g : Tg} {it : It} {ifs : Exs} {e : Ex} {elt tg iter : Expr} {xifs : List Expr} {scope : Scope} {py pos spos : Pos} (P : PX G S T X L W ex) (hc : L.cm = true) (hy : X.N[i]? = some y) (hyl : X.env.scope.names.lookup y = some .local)
    (hsw : swapsWith (.ListComp elt [⟨tg, iter, xifs, 0⟩] scope pos) (some (.Name y py)) spos.line X.env = pure true) (hi : PI X tg iter (tI G T W ex A₀ H₀ it)) (ok : BlkOk X.N X.env.scope scope own)
    (hg : ∀ (s : Shared) (H : Hp) (C : Addr) (cl : List (Str × Addr)) (fp : List Addr), PG (X.blk s H scope (compEnvC scope cl C X.env) fp) tg (tG G ex A₀ H₀ g))
    (ht : ∀ (s : Shared) (H : Hp) (C : Addr) (cl : List (Str × Addr)) (fp : List Addr), PTs (X.blk s H scope (compEnvC scope cl C X.env) fp) xifs (tAll G T noW ex A₀ H₀ ifs))
    (he : ∀ (s : Shared) (H : Hp) (C : Addr) (cl : List (Str × Addr)) (fp : List Addr), PE (X.blk s H scope (compEnvC scope cl C X.env) fp) elt (tD G T noW ex A₀ H₀ e))
    (hs : ∀ x, foldedSetIterable iter X.env x = pure x) (hn : ∀ j ∈ g.ns, j ∈ own.map (·.2)) : PS X (.Assign [.Name y py] (.ListComp elt [⟨tg, iter, xifs, 0⟩] scope pos) spos) (tS G T W ex A₀ H₀ q (.asg (.n i) (.lc (own.map (·.2)) g it ifs e))) :=
  PS.of (ps_setLc (P.calm hc) (by rw [P.nm]; exact P.nd) hy hyl hsw hi ok hg ht he hs) fun _ _ _ h => lc_w own hn (asg_step h)
theorem ss_setLc2 {own : List (Str × Nat)} {vs1 : List Nat} {i : Nat} {y : Str} {g g2 : Tg} {it it2 : It} {ifs ifs2 : Exs} {e : Ex} {elt tg iter tg1 iter1 : Expr} {xifs xifs1 : List Expr} {scope : Scope} {py pos spos : Pos} (P : PX G S T X L W ex) (hc : L.cm = true) (hy : X.N[i]? = some y) (hyl : X.env.scope.names.lookup y = some .local)
    (hsw : swapsWith (.ListComp elt [⟨tg, iter, xifs, 0⟩, ⟨tg1, iter1, xifs1, 0⟩] scope pos) (some (.Name y py)) spos.line X.env = pure true) (hi : PI X tg iter (tI G T W ex A₀ H₀ it)) (ok : BlkOk X.N X.env.scope scope own) (hv : ∀ i ∈ vs1, i ∈ own.map (·.2))
    (hg : ∀ (s : Shared) (H : Hp) (C : Addr) (cl : List (Str × Addr)) (fp : List Addr), PG (X.blk s H scope (compEnvC scope cl C X.env) fp) tg (tG G ex A₀ H₀ g))
    (ht : ∀ (s : Shared) (H : Hp) (C : Addr) (cl : List (Str × Addr)) (fp : List Addr), PTs (X.blk s H scope (compEnvC scope cl C X.env) fp) xifs (tAll G T noW ex A₀ H₀ ifs))
    (hi1 : ∀ (s : Shared) (H : Hp) (C : Addr) (cl : List (Str × Addr)) (fp : List Addr), PI (X.blk s H scope (compEnvC scope cl C X.env) fp) tg1 iter1 (tI G T noW ex A₀ H₀ it2))
    (hg1 : ∀ (s : Shared) (H : Hp) (C : Addr) (cl : List (Str × Addr)) (fp : List Addr), PG (X.blk s H scope (compEnvC scope cl C X.env) fp) tg1 (tG G ex A₀ H₀ g2))
    (ht1 : ∀ (s : Shared) (H : Hp) (C : Addr) (cl : List (Str × Addr)) (fp : List Addr), PTs (X.blk s H scope (compEnvC scope cl C X.env) fp) xifs1 (tAll G T noW ex A₀ H₀ ifs2))
    (he : ∀ (s : Shared) (H : Hp) (C : Addr) (cl : List (Str × Addr)) (fp : List Addr), PE (X.blk s H scope (compEnvC scope cl C X.env) fp) elt (tD G T noW ex A₀ H₀ e))
    (hs : ∀ x, foldedSetIterable iter X.env x = pure x) (hs1 : ∀ env x, foldedSetIterable iter1 env x = pure x) (hn : ∀ j ∈ g.ns, j ∈ own.map (·.2)) (hn1 : ∀ j ∈ g2.ns, j ∈ vs1) :
    PS X (.Assign [.Name y py] (.ListComp elt [⟨tg, iter, xifs, 0⟩, ⟨tg1, iter1, xifs1, 0⟩] scope pos) spos) (tS G T W ex A₀ H₀ q (.asg (.n i) (.lc2 (own.map (·.2)) vs1 g it ifs g2 it2 ifs2 e))) :=
  PS.of (ps_setLc2 (P.calm hc) (by rw [P.nm]; exact P.nd) hy hyl hsw hi ok hv hg ht hi1 hg1 ht1 he hs hs1) fun _ _ _ h => lc2_w own hn hn1 (asg_step h)
/-! a, b = x, y -/
theorem Res.mono {A : Addr → Prop} {f : Bool} {H : Hp} {d : D} {Q Q' : VK} (h : Res G A f H d Q) (k : ∀ v H', Q v H' → Q' v H') : Res G A f H d Q' := fun v H' s hv o => k v H' (h v H' s hv o)
theorem ss_par {i j : Nat} {a b : Ex} {x y : Str} {ea eb : Expr} {px py pt pt2 pos : Pos} {kt k2 : Nat} (P : PX G S T X L W ex) (hc : L.cm = true) (hi : X.N[i]? = some x) (hj : X.N[j]? = some y) (hij : i ≠ j) (hx : X.env.scope.names.lookup x = some .local) (hy : X.env.scope.names.lookup y = some .local)
    (ha : PE X ea (tD G T W ex A₀ H₀ a)) (hb : PE X eb (tD G T W ex A₀ H₀ b)) (h1 : notStar ea = true) (h2 : notStar eb = true) (hw : swappedStores [.Tuple [.Name x px, .Name y py] kt pt] (.Tuple [ea, eb] k2 pt2) X.env = pure (some [x, y])) :
    PS X (.Assign [.Tuple [.Name x px, .Name y py] kt pt] (.Tuple [ea, eb] k2 pt2) pos) (tS G T W ex A₀ H₀ q (.par i j a b)) := by
  refine PS.of (ps_par (P.calm hc) (by rw [P.nm]; exact P.nd) hi hj hij hx hy (pa_cons ha (pa_cons hb pa_nil (star_no h2 _ _)) (star_no h1 _ _)) hw) fun Z σ H ⟨A, O, ρ, er, h⟩ => ?_
  rw [rn] at h
  refine seqE er h fun u v H1 _ s1 hv _ h1 => ?_
  obtain ⟨B, O', er2, k2, hv2, _⟩ := er.keepV s1 hv
  refine seqE er2 (outS_up k2 (fun _ => ⟨rfl, s1⟩) h1) fun u' v' H2 _ s2 hv' _ h2 => ?_
  obtain ⟨B', O'', er3, k3, hv3, _⟩ := er2.keepV s2 hv'
  refine ⟨v, v', rfl, ?_⟩
  cases c : decide (i < ρ.length) && decide (j < ρ.length) with
  | false => rw [c] at h2; exact h2.elim
  | true =>
    rw [c] at h2
    exact h2 _ _ _ _ ((er3.setSh (k3 _ _ hv2)).setSh hv3) k3
/-! if, the ends -/
theorem seqET {a : Ex} {A : Addr → Prop} {O : Ow} {σ : L2.St} {H : Hp} {ρ : Env} {g : Bool → R Fl} {Z : Ends} {R : Bool → Hp → Prop} (er : ER G ex A₀ H₀ A O σ H ρ) (h : outS G W ex A₀ H₀ q A σ H (((ev T a ρ).bind truR).bind g) Z)
    (k : ∀ x H1, Same H H1 → ER G ex A₀ H₀ (fr A H) O σ H1 ρ → outS G W ex A₀ H₀ q (fr A H) σ H1 (g x) Z → R x H1) : tDB G T W ex A₀ H₀ a σ H R := by
  refine ⟨A, O, ρ, er, ?_⟩
  cases e : (ev T a ρ).bind truR with
  | stk => rw [e] at h; exact h
  | exc x =>
    rw [e] at h
    exact fun cls dx H2 s2 r => h cls dx σ H2 (same_tr er.same s2) (fun _ => ⟨rfl, s2⟩) r
  | ok x =>
    rw [e] at h
    exact fun H1 s1 => k x H1 s1 (er.go s1) (outS_up (Keep.of s1 fun q z _ => .inl z) (fun _ => ⟨rfl, s1⟩) h)
theorem ss_if {c : Ex} {a b : Sts} {ec : Expr} {sa sb : List Stmt} {pos : Pos} (hc : PT X ec (tDB G T W ex A₀ H₀ c)) (ha : PSs X sa (tSs G T W ex A₀ H₀ q a)) (hb : PSs X sb (tSs G T W ex A₀ H₀ q b)) : PS X (.If ec sa sb pos) (tS G T W ex A₀ H₀ q (.ife c a b)) := by
  refine PS.of (ps_if hc ha hb) fun Z σ H ⟨A, O, ρ, er, h⟩ => ?_
  rw [rn, ← bind_assoc] at h
  refine seqET er h fun x H1 s er1 h1 => ?_
  cases x with
  | true =>
    rw [if_pos rfl]
    exact ⟨_, O, ρ, er1, h1⟩
  | false =>
    rw [if_neg Bool.false_ne_true]
    exact ⟨_, O, ρ, er1, h1⟩
theorem ss_ret {e : Ex} {ee : Expr} {pos : Pos} (he : PE X ee (tD G T W ex A₀ H₀ e)) : PS X (.Return (some ee) pos) (tS G T W ex A₀ H₀ q (.ret e)) := by
  refine PS.of (ps_ret he) fun Z σ H ⟨A, O, ρ, er, h⟩ => ?_
  rw [rn] at h
  refine seqE er h fun x v H1 _ s1 hv _ h1 => ?_
  obtain ⟨B, O', er2, k2, hv2, _⟩ := er.keepV s1 hv
  exact h1 v _ _ _ _ er2 k2 hv2
theorem ss_retN {pos : Pos} : PS X (.Return none pos) (tS G T W ex A₀ H₀ q .retN) := PS.of ps_retN fun Z σ H ⟨A, O, ρ, er, h⟩ => by
  rw [rn] at h
  exact h .non _ _ _ _ er Keep.refl .non
theorem ss_pas {pos : Pos} : PS X (.Pass pos) (tS G T W ex A₀ H₀ q .pas) := PS.of ps_pass fun Z σ H ⟨A, O, ρ, er, h⟩ => by
  rw [rn] at h
  exact h _ _ _ _ er Keep.refl
theorem ss_brk {pos : Pos} : PS X (.Break pos) (tS G T W ex A₀ H₀ q .brk) := PS.of ps_break fun Z σ H ⟨A, O, ρ, er, h⟩ => by
  rw [rn] at h
  exact h _ _ _ _ er Keep.refl
theorem ss_cnt {pos : Pos} : PS X (.Continue pos) (tS G T W ex A₀ H₀ q .cnt) := PS.of ps_continue fun Z σ H ⟨A, O, ρ, er, h⟩ => by
  rw [rn] at h
  exact h _ _ _ _ er Keep.refl
theorem ss_nev {st : Stmt} : PS X st (tS G T W ex A₀ H₀ q .nev) := PS.of ps_never fun Z σ H ⟨A, O, ρ, er, h⟩ => by
  rw [rn] at h
  exact h
theorem ss_exp {e : Ex} {ee : Expr} {pos : Pos} (he : PE X ee (tD G T W ex A₀ H₀ e)) (hs : notComp ee = true) : PS X (.Expr ee pos) (tS G T W ex A₀ H₀ q (.exp e)) := by
  refine PS.of (ps_expr he (swaps_no hs _ _ _)) fun Z σ H ⟨A, O, ρ, er, h⟩ => ?_
  rw [rn] at h
  refine seqE er h fun x v H1 _ s1 hv _ h1 => ?_
  exact h1 _ _ _ _ (er.go s1) (Keep.of s1 fun q z _ => .inl z)
/-! blocks -/
theorem ss_nil : PSs X [] (tSs G T W ex A₀ H₀ q .nil) := PSs.of pss_nil fun Z σ H ⟨A, O, ρ, er, h⟩ => by
  rw [rns] at h
  exact h _ _ _ _ er Keep.refl
theorem ss_one {st : St} {s : Stmt} (h1 : PS X s (tS G T W ex A₀ H₀ q st)) : PSs X [s] (tSs G T W ex A₀ H₀ q (.cons st .nil)) := PSs.of (pss_one h1) fun Z σ H ⟨A, O, ρ, er, h⟩ => by
  refine ⟨A, O, ρ, er, ?_⟩
  rw [rns] at h
  cases e : rn T st ρ with
  | stk => rw [e] at h; exact h
  | exc x => rw [e] at h; exact h
  | ok f =>
    rw [e] at h
    cases f with
    | nx ρ1 =>
      have h : outS G W ex A₀ H₀ q A σ H (rns T .nil ρ1) Z := h
      rw [rns] at h
      exact h
    | rt d ρ1 => exact h
    | bk ρ1 => exact h
    | ct ρ1 => exact h
theorem ss_cons {st : St} {r : Sts} {s : Stmt} {ss : List Stmt} (h1 : PS X s (tS G T W ex A₀ H₀ false st)) (h2 : PSs X ss (tSs G T W ex A₀ H₀ false r)) : PSs X (s :: ss) (tSs G T W ex A₀ H₀ false (.cons st r)) := PSs.of (pss_cons h1 h2) fun Z σ H ⟨A, O, ρ, er, h⟩ => by
  refine ⟨A, O, ρ, er, ?_⟩
  rw [rns] at h
  cases e : rn T st ρ with
  | stk => rw [e] at h; exact h
  | exc x => rw [e] at h; exact h
  | ok f =>
    rw [e] at h
    cases f with
    | nx ρ1 =>
      have h : outS G W ex A₀ H₀ false A σ H (rns T r ρ1) Z := h
      exact fun A' O' σ' H' er' k => ⟨A', O', ρ1, er', outS_up k (fun z => absurd z Bool.false_ne_true) h⟩
    | rt d ρ1 => exact h
    | bk ρ1 => exact h
    | ct ρ1 => exact h
/-! while -/
theorem ss_whl {c : Ex} {b : Sts} {ec : Expr} {sb : List Stmt} {pos : Pos} (P : PY G S T X L W ex) (hcm : L.cm = true) (hc : PT X ec (tDB G T W ex A₀ H₀ c)) (hb : PSs X sb (tSs G T W ex A₀ H₀ false b)) : PS X (.While ec sb [] pos) (tS G T W ex A₀ H₀ false (.whl c b)) := by
  refine PS.of (ps_while (P.pass hcm) hc hb) fun Z σ H ⟨A, O, ρ, er, h⟩ => ?_
  rw [rn] at h
  refine ⟨fun m σ1 H1 => ∃ A1 O1 ρ1, ER G ex A₀ H₀ A1 O1 σ1 H1 ρ1 ∧ outS G W ex A₀ H₀ false A1 σ1 H1 (loopW (fun ρ => (ev T c ρ).bind truR) (fun ρ => rns T b ρ) m ρ1) Z, ⟨T.fuel, A, O, ρ, er, h⟩, ?_⟩
  rintro m σ1 H1 ⟨A1, O1, ρ1, er1, h1⟩
  cases m with
  | zero => exact h1.elim
  | succ m =>
    rw [loopW] at h1
    refine seqET er1 h1 fun x H2 s2 er2 h2 => ?_
    cases x with
    | false =>
      rw [if_neg Bool.false_ne_true]
      exact h2 _ _ _ _ er2 Keep.refl
    | true =>
      rw [if_pos rfl]
      have h2 : outS G W ex A₀ H₀ false (fr A1 H1) σ1 H2 ((rns T b ρ1).bind fun r => match r with
        | .nx ρ => loopW (fun ρ => (ev T c ρ).bind truR) (fun ρ => rns T b ρ) m ρ
        | .ct ρ => loopW (fun ρ => (ev T c ρ).bind truR) (fun ρ => rns T b ρ) m ρ
        | .bk ρ => .ok (.nx ρ)
        | .rt d ρ => .ok (.rt d ρ)) Z := h2
      refine ⟨fun σ' H' => ∃ A' O' ρ', ER G ex A₀ H₀ A' O' σ' H' ρ' ∧ outS G W ex A₀ H₀ false A' σ' H' (loopW (fun ρ => (ev T c ρ).bind truR) (fun ρ => rns T b ρ) m ρ') Z, fun σ' H' z => ⟨m, Nat.lt_succ_self m, z⟩, _, O1, ρ1, er2, ?_⟩
      cases e : rns T b ρ1 with
      | stk => rw [e] at h2; exact h2
      | exc x => rw [e] at h2; exact h2
      | ok f =>
        rw [e] at h2
        cases f with
        | nx ρ3 => exact fun A' O' σ' H' er' k => ⟨A', O', ρ3, er', outS_up k (fun z => absurd z Bool.false_ne_true) h2⟩
        | ct ρ3 => exact fun A' O' σ' H' er' k => ⟨A', O', ρ3, er', outS_up k (fun z => absurd z Bool.false_ne_true) h2⟩
        | bk ρ3 => exact h2
        | rt d ρ3 => exact h2
/-! for -/
theorem ss_fr {g : Tg} {it : It} {b : Sts} {tg iter : Expr} {sb : List Stmt} {pos : Pos} (P : PY G S T X L W ex) (hc : L.cm = true) (hi : PI X tg iter (tI G T W ex A₀ H₀ it)) (hg : PG X tg (tG G ex A₀ H₀ g)) (hb : PSs X sb (tSs G T W ex A₀ H₀ false b)) (hs : ∀ x, foldedSetIterable iter X.env x = pure x) :
    PS X (.For tg iter sb [] pos) (tS G T W ex A₀ H₀ false (.fr g it b)) := by
  refine PS.of (ps_for (P.pass hc) (P.px.calm hc) hi hg hb hs) fun Z σ H ⟨A, O, ρ, er, h⟩ => ?_
  rw [rn] at h
  refine ⟨A, O, ρ, er, ?_⟩
  cases ei : evIt T it ρ with
  | stk => rw [ei] at h; exact h
  | exc x =>
    rw [ei] at h
    exact fun cls dx H2 s2 r => h cls dx σ H2 (same_tr er.same s2) (fun z => absurd z Bool.false_ne_true) r
  | ok xs =>
    rw [ei] at h
    intro J H1 ps s1 hJ hp
    have h : outS G W ex A₀ H₀ false A σ H (loopF (fun x ρ => (bindT g x ρ).bind fun ρ => rns T b ρ) xs (unown ρ (rootsI it))) Z := h
    -- the source is no name's own
    have er1 : ER G ex A₀ H₀ (fr (wi A O (rootsI it)) H) (fun j k p => O j k p ∧ j ∉ rootsI it) σ H1 (unown ρ (rootsI it)) := (er.un (rootsI it)).go s1
    have h1 := outS_up (σ1 := σ) (H1 := H1) (A1 := fr (wi A O (rootsI it)) H) (Keep.of s1 fun q z _ => .inl (.inl z)) (fun z => absurd z Bool.false_ne_true) h
    refine ⟨fun i m σ' H' => i + m = xs.length ∧ ∃ A' O' ρ', ER G ex A₀ H₀ A' O' σ' H' ρ' ∧ (∀ p ∈ ps, Has G A' H' p.1 p.2) ∧ outS G W ex A₀ H₀ false A' σ' H' (loopF (fun x ρ => (bindT g x ρ).bind fun ρ => rns T b ρ) (xs.drop i) ρ') Z, ⟨xs.length, by omega, _, _, _, er1, hp, h1⟩, ?_⟩
    rintro i m σ' H' ⟨hm, A', O', ρ', er', hp', h'⟩
    cases hx : xs[i]? with
    | none =>
      have hi : xs.length ≤ i := List.getElem?_eq_none_iff.mp hx
      rw [List.drop_eq_nil_of_le hi, loopF] at h'
      exact .inl ⟨hJ.stop A' H' i hp' hi, h' _ _ _ _ er' Keep.refl⟩
    | some x =>
      obtain ⟨g1, g2⟩ := hJ.go A' H' i x hp' hx
      have hi : i < xs.length := (List.getElem?_eq_some_iff.mp hx).1
      rw [drop_cons hx, loopF, bind_assoc] at h'
      refine .inr ⟨g1, fun σ2 H2 => ∃ A2 O2 ρ2, ER G ex A₀ H₀ A2 O2 σ2 H2 ρ2 ∧ (∀ p ∈ ps, Has G A2 H2 p.1 p.2) ∧ outS G W ex A₀ H₀ false A2 σ2 H2 (loopF (fun x ρ => (bindT g x ρ).bind fun ρ => rns T b ρ) (xs.drop (i + 1)) ρ2) Z,
        fun σ2 H2 ⟨A2, O2, ρ2, k1, k2, k3⟩ => ⟨m - 1, by omega, by omega, A2, O2, ρ2, k1, k2, k3⟩, fun v H2 hy => ?_⟩
      obtain ⟨s2, hv⟩ := g2 v H2 hy
      have k2 : Keep G A' H' (fr A' H') H2 := Keep.of s2 fun q z _ => .inl z
      refine ⟨_, O', ρ', x, er'.go s2, hv, ?_⟩
      cases eb : bindT g x ρ' with
      | stk => rw [eb] at h'; exact h'
      | exc z => exact (bindT_exc _ eb).elim
      | ok ρ2 =>
        rw [eb] at h'
        intro O2 σ2 er2 _ _
        have h' : outS G W ex A₀ H₀ false A' σ' H' ((rns T b ρ2).bind fun r => match r with
          | .nx ρ => loopF (fun x ρ => (bindT g x ρ).bind fun ρ => rns T b ρ) (xs.drop (i + 1)) ρ
          | .ct ρ => loopF (fun x ρ => (bindT g x ρ).bind fun ρ => rns T b ρ) (xs.drop (i + 1)) ρ
          | .bk ρ => .ok (.nx ρ)
          | .rt d ρ => .ok (.rt d ρ)) Z := h'
        refine ⟨_, O2, ρ2, er2, ?_⟩
        cases e : rns T b ρ2 with
        | stk => rw [e] at h'; exact h'
        | exc z =>
          rw [e] at h'
          exact fun cls dx σ3 H3 s3 hs xr => h' cls dx σ3 H3 s3 (fun z => absurd z Bool.false_ne_true) xr
        | ok f =>
          rw [e] at h'
          cases f with
          | nx ρ3 => exact fun A3 O3 σ3 H3 er3 k => ⟨A3, O3, ρ3, er3, fun p z => k _ _ (k2 _ _ (hp' p z)), outS_up (k2.trans k) (fun z => absurd z Bool.false_ne_true) h'⟩
          | ct ρ3 => exact fun A3 O3 σ3 H3 er3 k => ⟨A3, O3, ρ3, er3, fun p z => k _ _ (k2 _ _ (hp' p z)), outS_up (k2.trans k) (fun z => absurd z Bool.false_ne_true) h'⟩
          | bk ρ3 => exact fun A3 O3 σ3 H3 er3 k => h' A3 O3 σ3 H3 er3 (k2.trans k)
          | rt d ρ3 => exact fun v A3 O3 σ3 H3 er3 k hv => h' v A3 O3 σ3 H3 er3 (k2.trans k) hv
end
end PD
end

section
set_option Elab.async false
set_option linter.all false
set_option maxRecDepth 100000
set_option maxHeartbeats 4000000
/-! PD, part 14: statements: writes, errors. -/
namespace PD
open PySem PySem.Spec PyProof.Rows L2
theorem slotE_some {ρ : Env} {i : Nat} {o : OD} (h : slotE ρ i = some o) : ρ[i]? = some (some o) := by
  unfold slotE at h
  cases e : ρ[i]? with
  | none => rw [e] at h; cases h
  | some o' => rw [e] at h; rw [show o' = some o from h]
section
variable {G : Sg} {S : Sx} {T : Tab} {X : Cx} {L : Lo} {W : WX} {ex : ExI} {A₀ : Addr → Prop} {H₀ : Hp} {q : Bool}
theorem attr_name {x f : Str} {p : Pos} (env : PySem.Env) (w : Sem Value) : attributeBase (.Name x p) f env w = w := rfl
/-! xs.append(e) -/
theorem ss_app {i : Nat} {x : Str} {e : Ex} {ee : Expr} {p apos cpos pos : Pos} (P : PX G S T X L W ex) (hi : X.N[i]? = some x) (hv : Vis X.env.scope x) (hd : (x == ("__debug__" : Str)) = false) (hcd : (x == ("__classdict__" : Str)) = false)
    (he : PE X ee (tD G T W ex A₀ H₀ e)) (hs : notStar ee = true) (hl : (apos.endLine == cpos.line) = true) : PS X (.Expr (.Call (.Attribute (.Name x p) "append" apos) [ee] [] cpos) pos) (tS G T W ex A₀ H₀ q (.app i e)) := by
  refine PS.of (ps_expr (pe_bm PySem.F.plainAttrs_list PySem.F.slot_list_append PySem.F.type_list_append mt_append (pe_var hi hv hd hcd) (pa_cons he pa_nil (star_no hs _ _)) rfl (by rw [star_no hs]; rfl) hl (star_no hs _ _) rfl) rfl) fun Z σ H ⟨A, O, ρ, er, h⟩ => ?_
  rw [rn] at h
  split at h
  · rename_i ds e0
    obtain ⟨v, e1, p, xs, rfl, h0, h1, h2⟩ := er.slot i _ (slotE_some e0)
    refine ⟨_, e1, .inl ⟨rfl, xs, .of h1⟩, ?_⟩
    refine seqE er h fun u w H1 _ s1 hw _ h3 => ?_
    obtain ⟨B, O', er2, k2, hw2, hO⟩ := er.keepV s1 hw
    unfold appO at h3
    split at h3
    · rename_i ds2 e2
      obtain ⟨v2, e3, p2, xs2, rfl, j0, j1, j2⟩ := er2.slot i _ (slotE_some e2)
      rw [e1] at e3
      cases e3
      cases c : decide (ds2.length + [u].length ≤ line) with
      | false => rw [c] at h3; exact h3.elim
      | true =>
        rw [c] at h3
        have hz := of_decide_eq_true c
        rw [List.length_singleton] at hz
        have mu : Mut (H1 p) := by rw [j1]; exact trivial
        refine ⟨p, xs2, w, rfl, rfl, j1, by rw [j2.length, ← line_eq]; omega, ?_⟩
        have nB := (er2.own _ _ _ j0).1
        exact h3 _ _ _ _ (er2.wr (Oi := O' i) e1 ⟨0, j0⟩ mu (fun fs z => by rw [j1] at z; cases z) ⟨p, _, rfl, j0, upd_same, (j2.append (HasL.one hw2)).upd mu nB⟩ (fun k q z => .inl z) fun k k' q z z' => (er2.uniq _ _ _ _ _ z z').2) (k2.trans (Keep.wr mu nB))
    · exact h3.elim
  · exact h.elim
/-! self.f = e -/
theorem putF_app {f : Str} {v : V} : ∀ {fl : List (Str × V)}, f ∉ fl.map Prod.fst → putF f v fl = fl ++ [(f, v)]
  | [], _ => rfl
  | (g, x) :: r, h => by
    rw [List.map_cons, List.mem_cons, not_or] at h
    rw [putF, if_neg (fun z => h.1 z.symm), putF_app h.2]
    rfl
theorem putF_set {f : Str} {v : V} : ∀ {fl : List (Str × V)} {j : Nat}, (fl.map Prod.fst).Nodup → (fl.map Prod.fst)[j]? = some f → (putF f v fl).map Prod.fst = fl.map Prod.fst ∧ (putF f v fl).map Prod.snd = (fl.map Prod.snd).set j v
  | [], j, _, e => by simp at e
  | (g, x) :: r, 0, _, e => by
    simp at e
    subst e
    rw [putF, if_pos rfl]
    exact ⟨rfl, rfl⟩
  | (g, x) :: r, j + 1, n, e => by
    rw [List.map_cons, List.nodup_cons] at n
    have e' : (r.map Prod.fst)[j]? = some f := by simpa using e
    have ne : g ≠ f := fun z => n.1 (z ▸ List.mem_of_getElem? e')
    obtain ⟨i1, i2⟩ := putF_set (v := v) n.2 e'
    rw [putF, if_neg ne]
    exact ⟨by rw [List.map_cons, List.map_cons, i1], by rw [List.map_cons, List.map_cons, i2]; rfl⟩
/-- a field of one's own is put -/
theorem put_fld {c : Nat} {f : Str} {j : Nat} {v : V} {fl : List (Str × V)} {n : Nat} (hN : (G.cf c).Nodup) (hj : (G.cf c)[j]? = some f) (hk : fl.map Prod.fst = (G.cf c).take n) (hl : (fl.map Prod.snd).length = n) (hn : j ≤ n) :
    (putF f v fl).map Prod.fst = (G.cf c).take (max n (j + 1)) ∧ (putF f v fl).map Prod.snd = (match decide (j < n) with
      | true => (fl.map Prod.snd).set j v
      | false => fl.map Prod.snd ++ [v]) := by
  have hjc : j < (G.cf c).length := (List.getElem?_eq_some_iff.mp hj).1
  cases d : decide (j < n) with
  | true =>
    have d := of_decide_eq_true d
    obtain ⟨i1, i2⟩ := putF_set (v := v) (f := f) (fl := fl) (j := j) (by rw [hk]; exact hN.sublist (List.take_sublist _ _)) (by rw [hk, List.getElem?_take_of_lt d]; exact hj)
    exact ⟨by rw [i1, hk, Nat.max_eq_left (by omega)], i2⟩
  | false =>
    have d := of_decide_eq_false d
    have e : j = n := by omega
    subst e
    have nm : f ∉ fl.map Prod.fst := by
      rw [hk]
      intro z
      obtain ⟨i, hi, e⟩ := List.mem_iff_getElem?.mp z |>.elim fun i e => (⟨i, (by
        have := (List.getElem?_eq_some_iff.mp e).1
        rw [List.length_take] at this
        omega : i < j), e⟩ : ∃ i, ∃ _ : i < j, ((G.cf c).take j)[i]? = some f)
      rw [List.getElem?_take_of_lt hi] at e
      have := nodup_ix hN e hj
      omega
    rw [putF_app nm]
    refine ⟨?_, by rw [List.map_append]; rfl⟩
    rw [List.map_append, hk, Nat.max_eq_right (by omega), List.take_succ, hj]
    rfl
theorem fset_len {fs : List OF} {j : Nat} {o : OF} (h : j ≤ fs.length) : (setF fs j o).length = max fs.length (j + 1) := by
  unfold setF
  cases d : decide (j < fs.length) with
  | true =>
    have d := of_decide_eq_true d
    show (fs.set j o).length = _
    rw [List.length_set]
    omega
  | false =>
    have d := of_decide_eq_false d
    show (fs ++ [o]).length = _
    rw [List.length_append, List.length_singleton]
    omega
theorem fset_get {α : Type} {fs : List OF} {ws : List α} {j i : Nat} {o o' : OF} {w w' : α} (hl : ws.length = fs.length) (hj : j ≤ fs.length) (e1 : (setF fs j o)[i]? = some o')
    (e2 : (match decide (j < fs.length) with
      | true => ws.set j w
      | false => ws ++ [w])[i]? = some w') : (i = j ∧ o' = o ∧ w' = w) ∨ (i ≠ j ∧ fs[i]? = some o' ∧ ws[i]? = some w') := by
  unfold setF at e1
  cases d : decide (j < fs.length) with
  | true =>
    rw [d] at e1 e2
    have d := of_decide_eq_true d
    have e1 : (fs.set j o)[i]? = some o' := e1
    have e2 : (ws.set j w)[i]? = some w' := e2
    by_cases h : j = i
    · subst h
      rw [List.getElem?_set_self d] at e1
      rw [List.getElem?_set_self (by omega)] at e2
      cases e1
      cases e2
      exact .inl ⟨rfl, rfl, rfl⟩
    · rw [List.getElem?_set_ne h] at e1 e2
      exact .inr ⟨fun z => h z.symm, e1, e2⟩
  | false =>
    rw [d] at e1 e2
    have d := of_decide_eq_false d
    have e1 : (fs ++ [o])[i]? = some o' := e1
    have e2 : (ws ++ [w])[i]? = some w' := e2
    by_cases h : i = j
    · subst h
      have en : i = fs.length := by omega
      rw [en, List.getElem?_append_right (Nat.le_refl _), Nat.sub_self] at e1
      rw [List.getElem?_append_right (by omega), show i - ws.length = 0 by omega] at e2
      cases e1
      cases e2
      exact .inl ⟨rfl, rfl, rfl⟩
    · have hlt : i < fs.length := by
        have := (List.getElem?_eq_some_iff.mp e1).1
        rw [List.length_append, List.length_singleton] at this
        omega
      rw [List.getElem?_append_left hlt] at e1
      rw [List.getElem?_append_left (by omega)] at e2
      exact .inr ⟨h, e1, e2⟩
def fldQ (X : Cx) (y : Str) (v : V) (Z : Ends) (σ : L2.St) : VK := fun x H2 => ∃ a C dx fs, x = .ref a ∧ H2 a = some (.ins C dx fs) ∧ Cls X.K C ∧ NoAttr X.K C y ∧ fs.length < 1000 ∧ Z.nx σ (upd H2 a (.ins C dx (putF y v fs)))
theorem fset_step {y : Str} {e : Ex} {Z : Ends} {σ : L2.St} {H : Hp} (P : PX G S T X L W ex) (F : FiOk G T) (h : tS G T W ex A₀ H₀ q (.fset y e) Z σ H) : sFld X.K (tVar 0) (tD G T W ex A₀ H₀ e) y Z σ H := by
  obtain ⟨A, O, ρ, er, h⟩ := h
  rw [rn] at h
  refine seqE er h fun x v H1 _ s1 hv ho h1 => ?_
  split at h1
  · rename_i c fs e0
    obtain ⟨j, ej, h1⟩ : ∃ j, T.fi c y = some j ∧ outS G W ex A₀ H₀ q A σ H (guardR (decide (j ≤ fs.length) && decide (fs.length < 100)) (.ok (.nx ((keepR ρ (roots e) x).set 0 (some (.oo c (setF fs j (ownO (frs e) x)))))))) Z := by
      cases ej : T.fi c y with
      | none => rw [ej] at h1; exact h1.elim
      | some j => rw [ej] at h1; exact ⟨j, rfl, h1⟩
    cases cc : decide (j ≤ fs.length) && decide (fs.length < 100) with
    | false => rw [cc] at h1; exact h1.elim
    | true =>
      rw [cc] at h1
      obtain ⟨c1, c2⟩ := bb cc
      have c1 := of_decide_eq_true c1
      have c2 := of_decide_eq_true c2
      have hjc := F.at_ c y j ej
      obtain ⟨k1, k2⟩ := P.cls c y (List.mem_of_getElem? hjc)
      have h1 : ∀ A' O' σ' H', ER G ex A₀ H₀ A' O' σ' H' ((keepR ρ (roots e) x).set 0 (some (.oo c (setF fs j (ownO (frs e) x))))) → Keep G A H A' H' → Z.nx σ' H' := h1
      -- whichever it is that is stored
      have fin : ∀ (B : Addr → Prop) (O' : Ow) (Pn : Addr → Prop), ER G ex A₀ H₀ B O' σ H1 (keepR ρ (roots e) x) → Keep G A H B H1 → (∀ H2 p, Mut (H1 p) → ¬ B p → ¬ Pn p → FldOk G B Pn (upd H1 p H2) v (ownO (frs e) x)) →
          (∀ q, Pn q → ¬ B q ∧ (H1 q).isSome = true ∧ H₀ q = none ∧ ∀ j k', ¬ O' j k' q) → tVar 0 σ H1 (fldQ X y v Z σ) := fun B O' Pn er2 kk hf hP => by
        obtain ⟨v0, e1, p, dx, fl, ⟨rfl, hsf⟩, j0, j1, j2, j3, j4⟩ := er2.slot 0 _ (slotE_some e0)
        have mu : Mut (H1 p) := by rw [j1]; exact trivial
        have nB := (er2.own _ _ _ j0).1
        have nP : ¬ Pn p := fun z => (hP p z).2.2.2 _ _ j0
        obtain ⟨q1, q2⟩ := put_fld (v := v) (P.cfN c) hjc j2 j3 c1
        refine ⟨_, e1, p, _, dx, fl, rfl, j1, k1, k2, by rw [List.length_map] at j3; omega, ?_⟩
        refine h1 _ _ _ _ (er2.wr (i := 0) (o' := .oo c (setF fs j (ownO (frs e) x))) (Oi := fun k q => (k = j + 1 ∧ Pn q) ∨ (k ≠ j + 1 ∧ O' 0 k q)) e1 ⟨0, j0⟩ mu (fun fs z => by rw [j1] at z; cases z) ⟨p, dx, putF y v fl, ⟨rfl, hsf⟩, .inr ⟨by omega, j0⟩, upd_same, by rw [q1, fset_len c1], ?_, ?_⟩ (fun k q z => ?_) fun k k' q z z' => ?_) (kk.trans (Keep.wr mu nB))
        · rw [q2, fset_len c1]
          cases d : decide (j < fs.length) with
          | true =>
            have d := of_decide_eq_true d
            show (List.set _ _ _).length = _
            rw [List.length_set, j3]
            omega
          | false =>
            have d := of_decide_eq_false d
            show (_ ++ [v]).length = _
            rw [List.length_append, List.length_singleton, j3]
            omega
        · intro i o w z1 z2
          rw [q2] at z2
          rcases fset_get j3 c1 z1 z2 with ⟨rfl, rfl, rfl⟩ | ⟨hij, g1, g2⟩
          · exact (hf _ p mu nB nP).to (Same.refl _) (fun _ z _ => z) fun _ z => .inl ⟨rfl, z⟩
          · exact ((j4 i o w g1 g2).upd mu nB fun z => by have := (er2.uniq _ _ _ _ _ z j0).2; omega).to (Same.refl _) (fun _ z _ => z) fun _ z => .inr ⟨by omega, z⟩
        · rcases z with ⟨_, z⟩ | ⟨_, z⟩
          · exact .inr (hP q z)
          · exact .inl z
        · rcases z with ⟨e1, z⟩ | ⟨e1, z⟩ <;> rcases z' with ⟨e2, z'⟩ | ⟨e2, z'⟩
          · omega
          · exact absurd z' ((hP q z).2.2.2 _ _)
          · exact absurd z ((hP q z').2.2.2 _ _)
          · exact (er2.uniq _ _ _ _ _ z z').2
      have sh_ : ownO (frs e) x = .sh x → tVar 0 σ H1 (fldQ X y v Z σ) := fun eo => by
        obtain ⟨B, O', er2, k2, hv2, _⟩ := er.keepV s1 hv
        exact fin B O' (fun _ => False) er2 k2 (fun H2 p mu nB _ => by rw [eo]; exact Has.upd mu nB hv2) fun _ z => z.elim
      cases ef : frs e with
      | false => exact sh_ (by rw [ef]; rfl)
      | true =>
        cases x with
        | lst ds =>
          obtain ⟨p, xs, rfl, hp, hl, hh⟩ := ho ef
          obtain ⟨B, O', er2, k2, b1, b2, b3⟩ := er.keep (f := true) s1 hv (fun q => q = p) fun q z zs => by
            subst z
            rw [hp] at zs
            cases zs
          refine fin B O' (fun q => q = p) er2 k2 (fun H2 p' mu nB nP => ?_) fun q z => ?_
          · rw [ef]
            exact FldOk.upd (o := .ol ds) mu nB nP ⟨p, xs, rfl, rfl, hl, hh.mono (fun q z => (b1 q z.1 z.2).elim id fun z => by rw [froz] at z; cases z) (Same.refl _)⟩
          · subst z
            exact ⟨b2 _ rfl, by rw [hl]; rfl, same_none er.same hp, fun j k' zz => by
              have := (er.own _ _ _ (b3 _ _ _ zz)).2.1
              rw [hp] at this
              cases this⟩
        | dct t kvs =>
          obtain ⟨p, rfl, hp, hl⟩ := ho ef
          have hss : (H1 p).isSome = true := by
            cases t with
            | true => obtain ⟨kv, z, _⟩ := hl; rw [z]; rfl
            | false => obtain ⟨kv, z, _⟩ := hl; rw [z]; rfl
          obtain ⟨B, O', er2, k2, b1, b2, b3⟩ := er.keep (f := true) s1 hv (fun q => q = p) fun q z zs => by
            subst z
            rw [hp] at zs
            cases zs
          refine fin B O' (fun q => q = p) er2 k2 (fun H2 p' mu nB nP => ?_) fun q z => ?_
          · rw [ef]
            refine FldOk.upd (o := .od t kvs) mu nB nP ⟨p, rfl, rfl, ?_⟩
            cases t with
            | true => obtain ⟨kv, z1, z2, z3⟩ := hl; exact ⟨kv, z1, z2, z3.mono (fun _ z => z.elim) (Same.refl _)⟩
            | false => obtain ⟨kv, z1, z2, z3⟩ := hl; exact ⟨kv, z1, z2, z3.mono (fun _ z => z.elim) (Same.refl _)⟩
          · subst z
            exact ⟨b2 _ rfl, hss, same_none er.same hp, fun j k' zz => by
              have := (er.own _ _ _ (b3 _ _ _ zz)).2.1
              rw [hp] at this
              cases this⟩
        | _ => exact sh_ (by rw [ef]; rfl)
  · exact h1.elim
theorem ss_fset {x y : Str} {e : Ex} {ee : Expr} {p p' pos : Pos} (P : PX G S T X L W ex) (F : FiOk G T) (hi : X.N[0]? = some x) (hv : Vis X.env.scope x) (hd : (x == ("__debug__" : Str)) = false) (hcd : (x == ("__classdict__" : Str)) = false) (he : PE X ee (tD G T W ex A₀ H₀ e)) :
    PS X (.Assign [.Attribute (.Name x p) y p'] ee pos) (tS G T W ex A₀ H₀ q (.fset y e)) := PS.of (ps_fld (pe_var hi hv hd hcd) he (swaps_other rfl _ _)) fun _ _ _ h => fset_step P F h
/-! o[k] = e -/
theorem putK_rel {κ : Type} [DecidableEq κ] {f : κ → D} {B : Addr → Prop} {H : Hp} (inj : ∀ a b, eqD (f a) (f b) = decide (a = b)) (k : κ) {v : V} {d : D} (hv : Has G B H v d) {kvs : List (κ × V)} {ds : List (D × D)} (h1 : ds.map Prod.fst = kvs.map (fun p => f p.1)) (h2 : HasL G B H (kvs.map Prod.snd) (ds.map Prod.snd)) :
    (PD.putK ds (f k) d).map Prod.fst = (L2.putK kvs k v).map (fun p => f p.1) ∧ HasL G B H ((L2.putK kvs k v).map Prod.snd) ((PD.putK ds (f k) d).map Prod.snd) := by
  have an : ∀ {kvs : List (κ × V)} {ds : List (D × D)}, ds.map Prod.fst = kvs.map (fun p => f p.1) → (ds.any fun p => eqD p.1 (f k)) = kvs.any fun p => decide (p.1 = k) := by
    intro kvs
    induction kvs with
    | nil =>
      intro ds h
      cases ds with
      | nil => rfl
      | cons => simp at h
    | cons p kvs ih =>
      intro ds h
      cases ds with
      | nil => simp at h
      | cons q ds =>
        rw [List.map_cons, List.map_cons] at h
        injection h with e1 e2
        rw [List.any_cons, List.any_cons, ih e2, e1, inj]
  have mp : ∀ {kvs : List (κ × V)} {ds : List (D × D)}, ds.map Prod.fst = kvs.map (fun p => f p.1) → HasL G B H (kvs.map Prod.snd) (ds.map Prod.snd) →
      (ds.map fun p => if eqD p.1 (f k) then (p.1, d) else p).map Prod.fst = (kvs.map fun kv => if kv.1 = k then (kv.1, v) else kv).map (fun p => f p.1) ∧ HasL G B H ((kvs.map fun kv => if kv.1 = k then (kv.1, v) else kv).map Prod.snd) ((ds.map fun p => if eqD p.1 (f k) then (p.1, d) else p).map Prod.snd) := by
    intro kvs
    induction kvs with
    | nil =>
      intro ds h h'
      cases ds with
      | nil => exact ⟨rfl, .nil⟩
      | cons => simp at h
    | cons p kvs ih =>
      intro ds h h'
      cases ds with
      | nil => simp at h
      | cons q ds =>
        rw [List.map_cons, List.map_cons] at h h'
        injection h with e1 e2
        cases h' with
        | cons g1 g2 =>
          obtain ⟨i1, i2⟩ := ih e2 g2
          simp only [List.map_cons]
          rw [e1, inj]
          by_cases z : p.1 = k
          · rw [decide_eq_true z, if_pos rfl, if_pos z]
            exact ⟨by rw [i1], .cons hv i2⟩
          · rw [decide_eq_false z, if_neg Bool.false_ne_true, if_neg z]
            exact ⟨by rw [i1, e1], .cons g1 i2⟩
  unfold PD.putK L2.putK
  rw [an h1]
  by_cases z : (kvs.any fun p => decide (p.1 = k)) = true
  · rw [if_pos z, if_pos z]
    exact mp h1 h2
  · rw [if_neg z, if_neg z]
    refine ⟨by rw [List.map_append, List.map_append, h1]; rfl, ?_⟩
    rw [List.map_append, List.map_append]
    exact h2.append (HasL.one hv)
def rSetU : TSet := fun o i v H Q => rSetL o i v H Q ∨ rSetD o i v H Q
theorem set_any (hu : X.A.units + 64 < cLine) : PSet X rSetU := by
  intro pins s σ H o i v ov iv u Q I ro ri rv h
  rcases h with h | h
  · exact set_list pins s σ H o i v ov iv u Q I ro ri rv h
  · exact set_dict (by omega) pins s σ H o i v ov iv u Q I ro ri rv h
theorem subO_exc {o : OF} {k x : D} {e : Xc} (h : subO o k x = .exc e) : False := by
  unfold subO at h
  split at h <;> first
    | cases h
    | (have h := (guardR_exc h).2; cases h)
    | (rcases bind_exc h with h | ⟨_, _, h⟩
       · exact ofO_exc h
       · cases h)
theorem sub_fld {B B' P : Addr → Prop} {H : Hp} {w v yv : V} {o o' : OF} {x y : D} (hf : FldOk G B P H w o) (hv : Has G B H v x) (hy : Has G B' H yv y) (e : subO o y x = .ok o') :
    ∃ p ho, w = .ref p ∧ P p ∧ Mut (H p) ∧ (∀ fs, H p ≠ some (.xd fs)) ∧ (∀ Q : Hp → Prop, Q (upd H p ho) → rSetU w yv v H Q) ∧ (¬ B p → FldOk G B P (upd H p ho) w o') := by
  cases o with
  | sh d => cases e
  | ol ds =>
    have hj : ∃ j, y = .int j := by cases y <;> first | exact ⟨_, rfl⟩ | cases e
    obtain ⟨j, rfl⟩ := hj
    obtain ⟨n, e1, e⟩ := bind_ok e
    cases e
    have e1 := ofO_ok e1
    obtain ⟨p, xs, rfl, h0, h1, h2⟩ := hf
    cases hy
    have mu : Mut (H p) := by rw [h1]; exact trivial
    refine ⟨p, .lst (xs.set n v), rfl, h0, mu, fun fs z => (by rw [h1] at z; cases z), fun Q hq => .inl ⟨p, xs, j, n, rfl, rfl, h1, by rw [h2.length]; exact e1, hq⟩, fun nB => ⟨p, _, rfl, h0, upd_same, (h2.set n hv).upd mu nB⟩⟩
  | od t kvs =>
    have e : guardR (keyOk t y && decide (kvs.length < line)) (.ok (.od t (PD.putK kvs y x))) = .ok o' := e
    obtain ⟨c, e⟩ := guardR_ok e
    cases e
    obtain ⟨c1, c2⟩ := bb c
    have c2 := of_decide_eq_true c2
    obtain ⟨p, rfl, h0, h3⟩ := hf
    cases t with
    | false =>
      obtain ⟨kv, h1, h2, h3⟩ := h3
      obtain ⟨key, e1, e2⟩ := key_int hy c1
      subst e1 e2
      have mu : Mut (H p) := by rw [h1]; exact trivial
      have hn := congrArg List.length h2
      rw [List.length_map, List.length_map] at hn
      obtain ⟨q1, q2⟩ := putK_rel eqD_key key hv h2 h3
      exact ⟨p, .dK (L2.putK kv key v), rfl, h0, mu, fun fs z => (by rw [h1] at z; cases z), fun Q hq => .inr ⟨p, _, rfl, .inl ⟨kv, key, h1, rfl, by rw [← hn, ← line_eq]; exact c2, rfl⟩, hq⟩, fun nB => ⟨p, rfl, h0, _, upd_same, q1, q2.upd mu nB⟩⟩
    | true =>
      obtain ⟨kv, h1, h2, h3⟩ := h3
      obtain ⟨ks, b, e1, e2, e3⟩ := key_tup hy c1
      subst e1 e2
      have mu : Mut (H p) := by rw [h1]; exact trivial
      have hn := congrArg List.length h2
      rw [List.length_map, List.length_map] at hn
      obtain ⟨q1, q2⟩ := putK_rel (f := fun ks : List Key => D.tup (ks.map keyD)) eqD_keyT ks hv h2 h3
      exact ⟨p, .dT (L2.putK kv ks v), rfl, h0, mu, fun fs z => (by rw [h1] at z; cases z), fun Q hq => .inr ⟨p, _, rfl, .inr ⟨kv, ks, b, h1, rfl, e3, by rw [← hn, ← line_eq]; exact c2, rfl⟩, hq⟩, fun nB => ⟨p, rfl, h0, _, upd_same, q1, q2.upd mu nB⟩⟩
theorem asg_sub {o i : Expr} {p : Pos} (h : notSlice i = true) (env : PySem.Env) : ∀ v, assign (.Subscript o i p) env v = (do
      let ov ← holding [v] (eval o env)
      let iv ← holding [v, ov] (eval i env)
      standAt p
      holding [v, ov, iv] (setItem ov iv v)
      release [v, ov, iv] []) := fun v => by
  cases i <;> first
    | exact absurd h Bool.false_ne_true
    | rfl
theorem swapped_sub {o i e : Expr} {p : Pos} (env : PySem.Env) : swappedStores [.Subscript o i p] e env = pure none := by
  cases e <;> rfl
theorem seqE' {a : Ex} {A A' : Addr → Prop} {O : Ow} {σ : L2.St} {H H' : Hp} {ρ : Env} {g : D → R Fl} {Z : Ends} {R : V → Hp → Prop} (er : ER G ex A₀ H₀ A O σ H ρ) (s0 : Same H' H) (h : outS G W ex A₀ H₀ q A' σ H' ((ev T a ρ).bind g) Z)
    (k : ∀ x v H1, ev T a ρ = .ok x → Same H H1 → Has G (fr (wi A O (roots a)) H) H1 v x → (frs a = true → Own1 G (wi A O (roots a)) H H1 v x) → outS G W ex A₀ H₀ q A' σ H' (g x) Z → R v H1) : tD G T W ex A₀ H₀ a σ H R := by
  refine ⟨A, O, ρ, er, ?_⟩
  cases e : ev T a ρ with
  | stk => rw [e] at h; exact h
  | exc x =>
    rw [e] at h
    exact fun cls dx H2 s2 r => h cls dx σ H2 (same_tr er.same s2) (fun _ => ⟨rfl, same_tr s0 s2⟩) r
  | ok x =>
    rw [e] at h
    exact fun v H1 s1 hv o => k x v H1 e s1 hv o h
theorem fsub_step {z : Str} {k e : Ex} {Z : Ends} {σ : L2.St} {H : Hp} (P : PX G S T X L W ex) (F : FiOk G T) (h : tS G T W ex A₀ H₀ q (.fsub z k e) Z σ H) : tAsg (tD G T W ex A₀ H₀ e) (gSub (tFld X.K (tVar 0) z) (tD G T W ex A₀ H₀ k) rSetU) Z σ H := by
  obtain ⟨A, O, ρ, er, h⟩ := h
  rw [rn] at h
  refine seqE er h fun x v H1 _ s1 hv ho h1 => ?_
  obtain ⟨B, O', er2, k2', hv2, hO⟩ := er.keepV s1 hv
  generalize keepR ρ (roots e) x = ρ2 at er2 h1
  split at h1
  · rename_i c fs e0
    obtain ⟨v0, e1, p, dx, fl, ⟨rfl, hsf⟩, j0, j1, j2, j3, j4⟩ := er2.slot 0 _ (slotE_some e0)
    cases ej : T.fi c z with
    | none => rw [ej] at h1; exact h1.elim
    | some j =>
      rw [ej] at h1
      have hjc := F.at_ c z j ej
      obtain ⟨k1, k2⟩ := P.cls c z (List.mem_of_getElem? hjc)
      have h1 : outS G W ex A₀ H₀ q A σ H (match fs[j]? with
        | some o => (ev T k ρ).bind fun y => guardR (froz y) ((subO o y x).bind fun o' => .ok (.nx (ρ2.set 0 (some (.oo c (fs.set j o'))))))
        | none => .stk) Z := h1
      cases eo : fs[j]? with
      | none => rw [eo] at h1; exact h1.elim
      | some o =>
        rw [eo] at h1
        have hj : j < fs.length := (List.getElem?_eq_some_iff.mp eo).1
        obtain ⟨w, hw⟩ : ∃ w, (fl.map Prod.snd)[j]? = some w := ⟨_, List.getElem?_eq_getElem (by omega)⟩
        have hn : (fl.map Prod.fst)[j]? = some z := by rw [j2, List.getElem?_take_of_lt hj]; exact hjc
        refine ⟨.ref p, e1, p, _, dx, fl, w, rfl, j1, k1, k2, lookup_at (by rw [j2]; exact (P.cfN c).sublist (List.take_sublist _ _)) hn hw, ?_⟩
        refine seqE' (er.go s1) s1 h1 fun y yv H2 _ s2 hy _ h2 => ?_
        cases cf : froz y with
        | false => rw [cf] at h2; exact h2.elim
        | true =>
          rw [cf] at h2
          cases es : subO o y x with
          | stk => rw [es] at h2; exact h2.elim
          | exc e => exact (subO_exc es).elim
          | ok o' =>
            rw [es] at h2
            have er3 := er2.go s2
            have mu0 : Mut (H2 p) := by rw [s2 _ _ j1]; exact trivial
            have kB : ∀ q, B q → (H1 q).isSome = true → fr B H1 q := fun q z _ => .inl z
            obtain ⟨p', ho', rfl, hP, mu, nx, hq, hf⟩ := sub_fld ((j4 j o w eo hw).to s2 kB fun _ z => z) (hv2.to s2 kB) hy es
            refine hq _ ?_
            have nB := (er3.own _ _ _ hP).1
            have np : p ≠ p' := fun z => by have := (er3.uniq _ _ _ _ _ j0 (z ▸ hP)).2; omega
            refine h2 _ _ _ _ (er3.wr (i := 0) (o' := .oo c (fs.set j o')) (Oi := O' 0) e1 ⟨_, hP⟩ mu nx ⟨p, dx, fl, ⟨rfl, hsf⟩, j0, by rw [upd_ne np]; exact s2 _ _ j1, by rw [List.length_set]; exact j2, by rw [List.length_set]; exact j3, fun i o2 w2 g1 g2 => ?_⟩ (fun k q z => .inl z) fun k k' q z z' => (er3.uniq _ _ _ _ _ z z').2) ((k2'.trans (Keep.of s2 kB)).trans (Keep.wr mu nB))
            by_cases hij : j = i
            · subst hij
              rw [List.getElem?_set_self hj] at g1
              cases g1
              rw [hw] at g2
              cases g2
              exact hf nB
            · rw [List.getElem?_set_ne hij] at g1
              exact ((j4 i o2 w2 g1 g2).to s2 kB fun _ z => z).upd mu nB fun z => by have := (er3.uniq _ _ _ _ _ z hP).2; omega
  · exact h1.elim
theorem ss_fsub {x z : Str} {k e : Ex} {ek ee : Expr} {p p1 p2 pos : Pos} (P : PX G S T X L W ex) (F : FiOk G T) (hi : X.N[0]? = some x) (hv : Vis X.env.scope x) (hd : (x == ("__debug__" : Str)) = false) (hcd : (x == ("__classdict__" : Str)) = false) (hk : PE X ek (tD G T W ex A₀ H₀ k)) (he : PE X ee (tD G T W ex A₀ H₀ e)) (hs : notSlice ek = true) :
    PS X (.Assign [.Subscript (.Attribute (.Name x p) z p1) ek p2] ee pos) (tS G T W ex A₀ H₀ q (.fsub z k e)) :=
  PS.of (ps_asg he (pg_sub (pe_fld (pe_var hi hv hd hcd) rfl) hk (set_any P.un) (asg_sub hs _)) (show swapsWith ee (some (.Subscript (.Attribute (.Name x p) z p1) ek p2)) pos.line X.env = pure false from swaps_other rfl _ _) (swapped_sub _) rfl) fun _ _ _ h => fsub_step P F h
/-! raise X() -/
theorem pmk_own0 {x : Str} {C : Addr} {p pos : Pos} {bmB : List Value} {B newId initId : String} (F : ExcBaseFacts B newId initId bmB) (q : PySem.W.excIn X.K C bmB newId = true) (gC : X.mg x = some (.ref C)) (kC : PySem.W.keepIn X.K (.ref C) = true) (r : Raises X (.ref C)) (hg : Gl X x)
    (hdb : (x == ("__debug__" : Str)) = false) : PMk X (.Call (.Name x p) [] [] pos) (fun _ H Q => Q (.ref C) none H) := by
  intro pins s σ H Q I h
  refine wpAny_Call_Name_kw (ld_glob I hg gC ?_ hdb)
  refine PySem.W.callWith_K0 I.kIn kC ?_
  show wpAny _ _ (call (.ref C) []) _ _ _
  obtain ⟨bm, N, nm, qn, bs, hdct, sn, sub, ab, col, dd, k0, k1, k2, k3, k5, mN, hC, hN, hni, T⟩ := exc_obj I.kIn q
  obtain ⟨hp, g, d, t, os⟩ := s
  exact wpAny_call_exc_subT F T hC hN hni (fun h' e hm => mk_of I hm r h (I.hok.gone hm.new)) (Nat.zero_le _)
theorem ss_rse {c : Nat} {x : Str} {p cpos pos : Pos} (P : PX G S T X L W ex) (hc : L.cm = true) (hx : S.ename[c]? = some x) (hnx : c < S.nx) (hg : Gl X x) (hd : (x == ("__debug__" : Str)) = false) : PS X (.Raise (some (.Call (.Name x p) [] [] cpos)) none pos) (tS G T W ex A₀ H₀ q (.rse c .nil)) := by
  obtain ⟨h1, h2⟩ := P.exn c x hx
  obtain ⟨h2, h3, h4, h5⟩ := h2 hnx
  refine PS.of (ps_raise (P.calm hc) P.tk (pmk_own0 F.excBase_ValueError h2 h1 h3 (raises_own h4 h5) hg hd)) fun Z σ H ⟨A, O, ρ, er, h⟩ => ?_
  rw [rn] at h
  exact h _ _ _ _ er.same (fun _ => ⟨rfl, Same.refl H⟩) ⟨⟨by rw [← P.enE]; exact (List.getElem?_eq_some_iff.mp hx).1, rfl⟩, rfl, .inl ⟨rfl, rfl⟩⟩
/-! isinstance(e, C), e the suite's error -/
theorem se_isE {i c : Nat} {x y : Str} {p p1 p2 pos : Pos} (P : PX G S T X L W ex) (hcm : L.cm = false) (hi : X.N[i]? = some x) (hv : Vis X.env.scope x) (hd : (x == ("__debug__" : Str)) = false) (hcd : (x == ("__classdict__" : Str)) = false) (hc : S.ename[c]? = some y) (hg : Gl X y) (hd2 : (y == ("__debug__" : Str)) = false)
    (hf2 : ("isinstance" : Str) ∈ S.free) (hg2 : Gl X "isinstance") : PE X (.Call (.Name "isinstance" p) [.Name x p1, .Name y p2] [] pos) (tD G T W ex A₀ H₀ (.isE i c)) := by
  obtain ⟨m1, _⟩ := P.exn c y hc
  refine ⟨fun pins s σ H Q I ⟨A, O, ρ, er, h⟩ => ?_⟩
  rw [ev] at h
  split at h
  · rename_i k as e0
    obtain ⟨v, e1, a, cls, d, e2, rfl, ⟨hk, rfl⟩, _, h3⟩ := er.slot i _ (slotE_some e0)
    have hd0 : d = none ∨ ∃ dd fs, d = some dd ∧ H dd = some (.xd fs) := by
      rcases h3 with ⟨_, h⟩ | ⟨_, p, w, _, h, h', _⟩
      · exact .inl h
      · exact .inr ⟨p, _, h, h'⟩
    rw [← P.enE] at hk
    have C := P.isx hcm a _ d e2 k rfl hk
    have kc := P.kit k c hk (List.getElem?_eq_some_iff.mp hc).1
    refine (pe_callB C hg2 (P.free _ hf2) boot_isinstance (pa_cons (pe_var hi hv hd hcd) (pa_cons (pe_glob (v := .ref (G.ea c)) hg m1 rfl hd2) pa_nil)) (by decide) (by decide)).run pins s σ H Q I ⟨_, e1, .ref (G.ea c), .ref (G.ea c), T.sub k c, rfl, fun u r => r, kc, hd0, Res.bl h⟩
  · exact h.elim
theorem se_isV {i : Nat} {x : Str} {p p1 p2 pos : Pos} (P : PX G S T X L W ex) (hcm : L.cm = false) (hi : X.N[i]? = some x) (hv : Vis X.env.scope x) (hd : (x == ("__debug__" : Str)) = false) (hcd : (x == ("__classdict__" : Str)) = false) (hf : ("ValueError" : Str) ∈ S.free) (hg : Gl X "ValueError")
    (hf2 : ("isinstance" : Str) ∈ S.free) (hg2 : Gl X "isinstance") : PE X (.Call (.Name "isinstance" p) [.Name x p1, .Name "ValueError" p2] [] pos) (tD G T W ex A₀ H₀ (.isE i 1000)) := by
  refine ⟨fun pins s σ H Q I ⟨A, O, ρ, er, h⟩ => ?_⟩
  rw [ev] at h
  split at h
  · rename_i k as e0
    obtain ⟨v, e1, a, cls, d, e2, rfl, ⟨hk, rfl⟩, _, h3⟩ := er.slot i _ (slotE_some e0)
    have hd0 : d = none ∨ ∃ dd fs, d = some dd ∧ H dd = some (.xd fs) := by
      rcases h3 with ⟨_, h⟩ | ⟨_, p, w, _, h, h', _⟩
      · exact .inl h
      · exact .inr ⟨p, _, h, h'⟩
    rw [← P.enE] at hk
    have C := P.isx hcm a _ d e2 k rfl hk
    have kc := P.kitV k hk
    refine (pe_callB C hg2 (P.free _ hf2) boot_isinstance (pa_cons (pe_var hi hv hd hcd) (pa_cons (pe_bltn (v := .ty "ValueError") hg (P.free _ hf) L2.boot_ValueError rfl) pa_nil)) (by decide) (by decide)).run pins s σ H Q I ⟨_, e1, .ty "ValueError", .type "ValueError", T.sub k 1000, rfl, fun u r => r, kc, hd0, Res.bl h⟩
  · exact h.elim
/-! e.f, e the suite's error -/
theorem se_fldE {i c : Nat} {x z : Str} {p pos : Pos} (P : PX G S T X L W ex) (hcm : L.cm = false) (hi : X.N[i]? = some x) (hv : Vis X.env.scope x) (hd : (x == ("__debug__" : Str)) = false) (hcd : (x == ("__classdict__" : Str)) = false) (hn : S.nx ≤ c) (hf : S.ef[c]? = some z) :
    PE X (.Attribute (.Name x p) z pos) (tD G T W ex A₀ H₀ (.fldE i c)) := by
  have ef := P.efS c z hf
  subst ef
  refine ⟨fun pins s σ H Q I ⟨A, O, ρ, er, h⟩ => ?_⟩
  rw [ev] at h
  split at h
  · rename_i k y e0
    obtain ⟨h0, h⟩ : k = c ∧ outD G W (wi A O (roots (.fldE i c))) σ (frs (.fldE i c)) H (.ok y) Q := by
      cases b : decide (k = c) with
      | false => rw [b] at h; exact h.elim
      | true => rw [b] at h; exact ⟨of_decide_eq_true b, h⟩
    subst h0
    obtain ⟨v, e1, a, cls, d, e2, rfl, ⟨hk, rfl⟩, hfz, h3⟩ := er.slot i _ (slotE_some e0)
    rw [← P.enE] at hk
    rcases h3 with ⟨h3, _⟩ | ⟨y', dd, w, h3, rfl, h4, h5⟩
    · cases h3
    · cases h3
      exact (P.xfx hcm a _ _ e2 k rfl hn hk x p pos _ (pe_var hi hv hd hcd)).run pins s σ H Q I ⟨_, e1, rfl, rfl, dd, _, w, rfl, h4, by simp [List.lookup], h.here (h5.mono (fun _ z => z.elim) (Same.refl H))⟩
  · exact h.elim
/-! raise X(e) -/
theorem oex_init {CX : CXT} {P : Program} {w : World} {K : PySem.W.Frag} {mg : Str → Option Value} {base : Heap} {nm q : Str} {pa : Arguments} {scope : Scope} {fa C : Addr} {fd : FuncData} {f y x : Str} {p1 p2 p3 pos : Pos} {k : Nat} (F : FunD K nm q pa [.Assign [.Attribute (.Name y p1) f p2] (.Name x p3) pos] scope [] [] fa fd) (sc : FnScope [y, x] [y, x] scope) (T : OexC K C) (hno : PySem.W.findIn K (.ref C) f = some none)
    (hy : Vis scope y) (hx : Vis scope x) (dy : (y == ("__debug__" : Str)) = false) (cy : (y == ("__classdict__" : Str)) = false) (dx : (x == ("__debug__" : Str)) = false) (cx : (x == ("__classdict__" : Str)) = false) :
    FnOk P w K mg base CX (k + 1) fa fd [y, x] (oexSp C f) := by
  refine F.ok sc (fun vs H Q E ⟨a, v, e, _⟩ => by rw [e]; rfl) fun cdv A outer s H vs Q E hr ⟨a, v, e, ha, h⟩ => ?_
  subst e
  refine ⟨_, pss_one (ps_ost (pe_var (i := 0) rfl hy dy cy) (pe_var (i := 1) rfl hx dx cx) (swaps_other rfl _ _)), ?_⟩
  exact ⟨v, rfl, .ref a, rfl, a, C, rfl, T, hno, .inl ⟨ha, fun d hd hne => h d hd hne⟩⟩

theorem passes_no {P : Program} {w : World} {X : Cx} : Passes (L2.CX P w) X (fun _ _ _ => False) := fun _ _ _ _ _ _ _ h => by
  obtain ⟨_, _, _, _, _, _, _, _, _, _, _, _, z⟩ := h
  exact z.elim
theorem ss_rseA {qq : Bool} {c : Nat} {e : Ex} {ee : Expr} {n : Str} {p cpos rpos : Pos} (PP : PX G S T X L W ex) (hc : L.cm = true) (hx : S.ename[c]? = some n) (hnx : S.nx ≤ c) (hg : Gl X n) (he : PE X ee (tD G T W ex A₀ H₀ e)) (hd : (n == ("__debug__" : Str)) = false) (hs : notStar ee = true) :
    PS X (.Raise (some (.Call (.Name n p) [ee] [] cpos)) none rpos) (tS G T W ex A₀ H₀ qq (.rse c (.cons e .nil))) := by
  have hcl : c < S.ename.length := (List.getElem?_eq_some_iff.mp hx).1
  have hcn : c < G.en := by rw [← PP.enE]; exact hcl
  obtain ⟨hm, _⟩ := PP.exn c n hx
  obtain ⟨fI, fd, ps, kk, TT, iC, tI, F1, hr, hb⟩ := PP.xin hc c hcl hnx
  refine PS.of (ps_raise (PP.calm hc) PP.tk (pmk_oex (p := p) (pos := cpos) (dvs := []) TT iC tI F1 hr hb .nil passes_no hg hm (pa_cons he pa_nil (star_no hs [] _)) hd (star_no hs [] _) (stars_no (es := []) rfl _ _))) fun Z σ H ⟨A, O, ρ, er, h⟩ => ?_
  rw [rn] at h
  show tD G T W ex A₀ H₀ e σ H fun y H1 => [y].length ≤ 1000 ∧ ∀ a, H1 a = none → oexSp (G.ea c) (G.ef c) (.ref a :: ([y] ++ [])) (upd H1 a (exo a (G.ea c) none)) (fun v H2 => v = .non ∧ ∃ (d : Addr) (fs : List (Str × V)), H2 a = some (exo a (G.ea c) (some d)) ∧ H2 d = some (exd d fs) ∧ H1 d = none ∧ W (.ref (G.ea c)) (some d) σ (upd (del H2 a) d (.xd fs))) (fun _ _ _ => False)
  refine seqE er h fun x v H1 _ s1 hv _ h1 => ?_
  cases cf : froz x with
  | false => rw [cf] at h1; exact h1.elim
  | true =>
    rw [cf] at h1
    refine ⟨by show 1 ≤ 1000; decide, fun a ha => mk_sp (Q := fun cls d H' => W cls d σ H') ha fun dx hdx hne => ?_⟩
    have sx : Same H1 (upd H1 dx (.xd [(G.ef c, v)])) := same_upd hdx
    have h1 : ∀ cls dx σ' H', Same H₀ H' → (qq = true → σ' = σ ∧ Same H H') → XR G H' (.mk c [x]) cls dx → W cls dx σ' H' := h1
    refine h1 _ _ _ _ (same_tr er.same (same_tr s1 sx)) (fun _ => ⟨rfl, same_tr s1 sx⟩) ⟨⟨hcn, rfl⟩, by show (froz x && true) = true; rw [cf]; rfl, .inr ⟨x, dx, v, rfl, rfl, upd_same, (Has.froz cf hv).mono (fun _ z => z) sx⟩⟩
/-! try -/
theorem SlotOk.ex' {A : Addr → Prop} {O : Nat → Addr → Prop} {H : Hp} {v : V} {ex' : ExI} (h0 : ex.e = none) (h1 : ex'.s = ex.s) : ∀ {o : OD}, SlotOk G ex A O H v o → SlotOk G ex' A O H v o
  | .f x, h => h
  | .oo c fs, ⟨p, dx, fl, e, h⟩ => ⟨p, dx, fl, ⟨e.1, e.2.trans h1.symm⟩, h⟩
  | .xc x, ⟨a, cls, d, e1, _⟩ => by rw [h0] at e1; cases e1
theorem ER.ex' {A : Addr → Prop} {O : Ow} {σ : L2.St} {H : Hp} {ρ : Env} {ex' : ExI} (h0 : ex.e = none) (h1 : ex'.s = ex.s) (er : ER G ex A₀ H₀ A O σ H ρ) : ER G ex' A₀ H₀ A O σ H ρ :=
  ⟨er.len, fun j o e => let ⟨v, e1, e2⟩ := er.slot j o e; ⟨v, e1, e2.ex' h0 h1⟩, er.own, er.uniq, er.sub, er.same⟩
theorem PX.tr {pn : List (Addr × Obj)} {xe : Value → Shared → Prop} {W' : WX} (P : PX G S T X L W ex) (hc : L.cm = true) (tk : Takes (X.tr pn xe) W') : PX G S T (X.tr pn xe) L W' ex where
  hG := P.hG
  calm := P.calm
  fnE := P.fnE
  un := P.un
  nm := P.nm
  nd := P.nd
  esc := P.esc
  tk := tk
  fns := P.fns
  mks := P.mks
  gi := P.gi
  gs := P.gs
  free := P.free
  cls := P.cls
  cfS := P.cfS
  cfN := P.cfN
  exn := P.exn
  efS := P.efS
  enE := P.enE
  ini := P.ini
  kit := P.kit
  kitV := P.kitV
  xin := P.xin
  isx := fun z => absurd z (by rw [hc]; exact fun h => nomatch h)
  xfx := fun z => absurd z (by rw [hc]; exact fun h => nomatch h)
  exm := P.exm
  qf := P.qf
  pin := fun z => absurd z (by rw [hc]; exact fun h => nomatch h)
def Lo.suite (L : Lo) : Lo := ⟨L.sc, L.fn, false⟩
theorem PX.suite {a : Addr} {oe : Obj} {pn : List (Addr × Obj)} {cls : Value} {d : Option Addr} (P : PX G S T X L W ex) (hE : ∀ k, k < S.ename.length → ExcC X.K (G.ea k)) (hN : ∀ k, S.nx ≤ k → k < S.ename.length → PySem.W.findIn X.K (.ref (G.ea k)) (G.ef k) = some none) (hz : Zc cls d oe) (hf : ∃ vs, oe.data = .fields vs) : PX G S T (X.suite a ((a, oe) :: pn)) L.suite noW ⟨some (a, cls, d), ex.s⟩ where
  hG := P.hG
  calm := fun z => absurd z (fun h => nomatch h)
  fnE := P.fnE
  un := P.un
  nm := P.nm
  nd := P.nd
  esc := P.esc
  tk := takes0
  fns := fun z => absurd z (fun h => nomatch h)
  mks := fun z => absurd z (fun h => nomatch h)
  gi := P.gi
  gs := P.gs
  free := P.free
  cls := P.cls
  cfS := P.cfS
  cfN := P.cfN
  exn := P.exn
  efS := P.efS
  enE := P.enE
  ini := P.ini
  kit := P.kit
  kitV := P.kitV
  xin := fun z => absurd z (fun h => nomatch h)
  isx := fun _ a' cls' d' e k hk hl => by
    cases e
    subst hk
    exact call_isX (hE k hl) hz hf
  xfx := fun _ a' cls' d' e k hk hn hl x p pos te he => by
    cases e
    exact pe_xf (oe := oe) (pn := pn) ⟨(hE k hl).hg, (hE k hl).hk, (hE k hl).hs, (hE k hl).hd⟩ (hN k hn hl) hz hf he (attr_name _ _)
  exm := P.exm
  qf := fun f x h1 h2 => let ⟨fa, fd, ps, k, F, r, h3, h4, h5⟩ := P.qf f x h1 h2; ⟨fa, fd, ps, k, F, ⟨r.dp, r.un⟩, h3, h4, h5⟩
  pin := fun _ => ⟨(a, oe), List.mem_cons_self⟩
theorem ER.noX {A : Addr → Prop} {O : Ow} {σ : L2.St} {H : Hp} {ρ : Env} {ex' : ExI} (er : ER G ex' A₀ H₀ A O σ H ρ) (hs : ex'.s = ex.s) : ER G ex A₀ H₀ A O σ H (ρ.map noXc) where
  len := by rw [List.length_map]; exact er.len
  slot := fun j o e => by
    rw [List.getElem?_map] at e
    obtain ⟨o1, e1, e2⟩ := Option.map_eq_some_iff.mp e
    cases o1 with
    | none => cases e2
    | some o1 =>
      obtain ⟨v, k1, k2⟩ := er.slot j o1 e1
      cases o1 with
      | f x => cases e2; exact ⟨v, k1, k2⟩
      | oo c fs =>
        cases e2
        obtain ⟨p, dx, fl, ⟨m1, m2⟩, m3⟩ := k2
        exact ⟨v, k1, p, dx, fl, ⟨m1, by rw [← hs]; exact m2⟩, m3⟩
      | xc x => cases e2
  own := er.own
  uniq := er.uniq
  sub := er.sub
  same := er.same
theorem ss_tryA {b s : Sts} {c i : Nat} {x n : Str} {sb suite : List Stmt} {b₀ : Stmt} {np pos pos' : Pos} (P : PY G S T X L W ex) (hex : ex.e = none) (hc : L.cm = true) (hi : X.N[i]? = some n) (hln : X.env.kindOf n = some .local) (hx : S.ename[c]? = some x) (hg : Gl X x) (hd : (x == ("__debug__" : Str)) = false)
    (hb : ∀ (W' : WX) (pn : List (Addr × Obj)) (xe : Value → Shared → Prop), Takes (X.tr pn xe) W' → PassesOwn (model X.prog X.w) X.A X.env xe → PSs (X.tr pn xe) sb (tSs G T W' ex A₀ H₀ true b))
    (hsu : ∀ (a : Addr) (oe : Obj) (cls : Value) (d : Option Addr) (pn : List (Addr × Obj)), Zc cls d oe → (∃ vs, oe.data = .fields vs) → PSs (X.suite a ((a, oe) :: pn)) (b₀ :: suite) (tSs G T noW ⟨some (a, cls, d), ex.s⟩ A₀ H₀ false s)) :
    PS X (.Try sb [.ExceptHandler (some (.Name x np)) (some n) (b₀ :: suite) pos'] [] [] pos) (tS G T W ex A₀ H₀ q (.tryA b c i s)) := by
  have hcl : c < S.ename.length := (List.getElem?_eq_some_iff.mp hx).1
  refine PS.of (ps_try_as (P.hs hc) (P.hf hc) (by rw [P.px.nm]; exact P.px.nd) hi hln (c := .ref (G.ea c)) ⟨hg, hd, .inl (P.px.exn c x hx).1⟩ P.px.tk hb hsu) fun Z σ H ⟨A, O, ρ, er, h⟩ => ?_
  rw [rn] at h
  refine ⟨A, O, ρ, er, ?_⟩
  cases e : rns T b ρ with
  | stk => rw [e] at h; exact h
  | ok f =>
    rw [e] at h
    cases f with
    | nx ρ1 => exact h
    | bk ρ1 => exact h
    | ct ρ1 => exact h
    | rt d ρ1 => exact h
  | exc z =>
    rw [e] at h
    obtain ⟨k, as⟩ := z
    intro cls dx σ' H' sH hq xr
    obtain ⟨rfl, sHH⟩ := hq rfl
    have xr' := xr
    obtain ⟨⟨hk, rfl⟩, _, _⟩ := xr'
    rw [← P.px.enE] at hk
    refine ⟨T.sub k c, P.px.exm k c hk hcl, fun eb a ha => ?_, fun eb => ?_⟩
    · have h : outS G W ex A₀ H₀ q A σ' H (match T.sub k c with
        | true => (noExc (rns T s (ρ.set i (some (.xc (.mk k as)))))).bind fun f => (match f with
          | .rt d ρ' => .ok (.rt d (ρ'.map fun _ => none))
          | .nx ρ' => .ok (.nx ((ρ'.set i none).map noXc))
          | _ => .stk)
        | false => .exc (.mk k as)) Z := h
      rw [eb] at h
      have er1 : ER G ⟨some (a, Value.ref (G.ea k), dx), ex.s⟩ A₀ H₀ (fr A H) O σ' H' ρ := (er.go sHH).ex' hex rfl
      have er2 := er1.set (i := i) (o := .xc (.mk k as)) (v := .ref a) (Oi := fun _ _ => False) ⟨a, _, dx, rfl, rfl, xr⟩ (fun _ _ z => z.elim) (fun _ _ _ _ z => z.elim) (fun _ _ _ z => z.elim)
      refine ⟨_, _, _, er2, ?_⟩
      cases es : rns T s (ρ.set i (some (.xc (.mk k as)))) with
      | stk => rw [es] at h; exact h
      | exc z => rw [es] at h; exact h.elim
      | ok f =>
        rw [es] at h
        cases f with
        | nx ρ1 => exact fun A' O' σ2 H2 er3 kk => h A' O' _ H2 ((er3.wipe1 (i := i) (σ' := σ2.set i none) (by rw [List.length_set]) fun j v hj e => by rw [List.getElem?_set_ne (fun z => hj z.symm)]; exact e).noX rfl) ((Keep.of sHH fun q z _ => .inl z).trans kk)
        | bk ρ1 => exact h.elim
        | ct ρ1 => exact h.elim
        | rt d ρ1 =>
          intro v A' O' σ2 H2 er3 kk hv
          refine h v A' (fun _ _ _ => False) σ2 H2 ⟨by rw [List.length_map]; exact er3.len, fun j o e => ?_, fun _ _ _ z => z.elim, fun _ _ _ _ _ z => z.elim, er3.sub, er3.same⟩ ((Keep.of sHH fun q z _ => .inl z).trans kk) hv
          rw [List.getElem?_map] at e
          cases hr : ρ1[j]? with
          | none => rw [hr] at e; cases e
          | some o => rw [hr] at e; cases e
    · have h : outS G W ex A₀ H₀ q A σ' H (match T.sub k c with
        | true => (noExc (rns T s (ρ.set i (some (.xc (.mk k as)))))).bind fun f => (match f with
          | .rt d ρ' => .ok (.rt d (ρ'.map fun _ => none))
          | .nx ρ' => .ok (.nx ((ρ'.set i none).map noXc))
          | _ => .stk)
        | false => .exc (.mk k as)) Z := h
      rw [eb] at h
      exact h _ _ _ _ sH (fun _ => ⟨rfl, sHH⟩) xr
theorem ss_tryO {b s : Sts} {c : Nat} {x : Str} {sb suite : List Stmt} {b₀ : Stmt} {np pos pos' : Pos} (P : PY G S T X L W ex) (hex : ex.e = none) (hc : L.cm = true) (hx : S.ename[c]? = some x) (hg : Gl X x) (hd : (x == ("__debug__" : Str)) = false)
    (hb : ∀ (W' : WX) (pn : List (Addr × Obj)) (xe : Value → Shared → Prop), Takes (X.tr pn xe) W' → PassesOwn (model X.prog X.w) X.A X.env xe → PSs (X.tr pn xe) sb (tSs G T W' ex A₀ H₀ true b))
    (hsu : ∀ (a : Addr) (oe : Obj) (cls : Value) (d : Option Addr) (pn : List (Addr × Obj)), Zc cls d oe → (∃ vs, oe.data = .fields vs) → PSs (X.suite a ((a, oe) :: pn)) (b₀ :: suite) (tSs G T noW ⟨some (a, cls, d), ex.s⟩ A₀ H₀ false s)) :
    PS X (.Try sb [.ExceptHandler (some (.Name x np)) none (b₀ :: suite) pos'] [] [] pos) (tS G T W ex A₀ H₀ q (.tryO b c s)) := by
  have hcl : c < S.ename.length := (List.getElem?_eq_some_iff.mp hx).1
  refine PS.of (ps_try_only (P.hs hc) (P.hf hc) (c := .ref (G.ea c)) ⟨hg, hd, .inl (P.px.exn c x hx).1⟩ P.px.tk hb hsu) fun Z σ H ⟨A, O, ρ, er, h⟩ => ?_
  rw [rn] at h
  refine ⟨A, O, ρ, er, ?_⟩
  cases e : rns T b ρ with
  | stk => rw [e] at h; exact h
  | ok f =>
    rw [e] at h
    cases f with
    | nx ρ1 => exact h
    | bk ρ1 => exact h
    | ct ρ1 => exact h
    | rt d ρ1 => exact h
  | exc z =>
    rw [e] at h
    obtain ⟨k, as⟩ := z
    intro cls dx σ' H' sH hq xr
    obtain ⟨rfl, sHH⟩ := hq rfl
    have xr' := xr
    obtain ⟨⟨hk, rfl⟩, _, _⟩ := xr'
    rw [← P.px.enE] at hk
    have h : outS G W ex A₀ H₀ q A σ' H (match T.sub k c with
      | true => (noExc (rns T s ρ)).bind fun f => (match f with
        | .rt d ρ' => .ok (.rt d (ρ'.map fun _ => none))
        | .nx ρ' => .ok (.nx (ρ'.map noXc))
        | _ => .stk)
      | false => .exc (.mk k as)) Z := h
    refine ⟨T.sub k c, P.px.exm k c hk hcl, fun eb a ha => ?_, fun eb => ?_⟩
    · rw [eb] at h
      have er1 : ER G ⟨some (a, Value.ref (G.ea k), dx), ex.s⟩ A₀ H₀ (fr A H) O σ' H' ρ := (er.go sHH).ex' hex rfl
      refine ⟨_, _, _, er1, ?_⟩
      cases es : rns T s ρ with
      | stk => rw [es] at h; exact h
      | exc z => rw [es] at h; exact h.elim
      | ok f =>
        rw [es] at h
        cases f with
        | nx ρ1 => exact fun A' O' σ2 H2 er3 kk => h A' O' _ H2 (er3.noX rfl) ((Keep.of sHH fun q z _ => .inl z).trans kk)
        | bk ρ1 => exact h.elim
        | ct ρ1 => exact h.elim
        | rt d ρ1 =>
          intro v A' O' σ2 H2 er3 kk hv
          refine h v A' (fun _ _ _ => False) σ2 H2 ⟨by rw [List.length_map]; exact er3.len, fun j o e => ?_, fun _ _ _ z => z.elim, fun _ _ _ _ _ z => z.elim, er3.sub, er3.same⟩ ((Keep.of sHH fun q z _ => .inl z).trans kk) hv
          rw [List.getElem?_map] at e
          obtain ⟨_, _, e2⟩ := Option.map_eq_some_iff.mp e
          cases e2
    · rw [eb] at h
      exact h _ _ _ _ sH (fun _ => ⟨rfl, sHH⟩) xr
theorem ss_tryT {b s s2 : Sts} {c i c2 : Nat} {x n y : Str} {sb suite suite2 : List Stmt} {b₀ b₁ : Stmt} {np yp pos pos' pos2 : Pos} (P : PY G S T X L W ex) (hex : ex.e = none) (hc : L.cm = true) (hi : X.N[i]? = some n) (hln : X.env.kindOf n = some .local) (hx : S.ename[c]? = some x) (hg : Gl X x) (hd : (x == ("__debug__" : Str)) = false) (hx2 : S.ename[c2]? = some y) (hg2 : Gl X y) (hd2 : (y == ("__debug__" : Str)) = false)
    (hb : ∀ (W' : WX) (pn : List (Addr × Obj)) (xe : Value → Shared → Prop), Takes (X.tr pn xe) W' → PassesOwn (model X.prog X.w) X.A X.env xe → PSs (X.tr pn xe) sb (tSs G T W' ex A₀ H₀ true b))
    (hsu : ∀ (a : Addr) (oe : Obj) (cls : Value) (d : Option Addr) (pn : List (Addr × Obj)), Zc cls d oe → (∃ vs, oe.data = .fields vs) → PSs (X.suite a ((a, oe) :: pn)) (b₀ :: suite) (tSs G T noW ⟨some (a, cls, d), ex.s⟩ A₀ H₀ false s))
    (hsu2 : ∀ (a : Addr) (oe : Obj) (cls : Value) (d : Option Addr) (pn : List (Addr × Obj)), Zc cls d oe → (∃ vs, oe.data = .fields vs) → PSs (X.suite a ((a, oe) :: pn)) (b₁ :: suite2) (tSs G T noW ⟨some (a, cls, d), ex.s⟩ A₀ H₀ false s2)) :
    PS X (.Try sb [.ExceptHandler (some (.Name x np)) (some n) (b₀ :: suite) pos', .ExceptHandler (some (.Name y yp)) none (b₁ :: suite2) pos2] [] [] pos) (tS G T W ex A₀ H₀ q (.tryT b c i s c2 s2)) := by
  have hcl : c < S.ename.length := (List.getElem?_eq_some_iff.mp hx).1
  have hcl2 : c2 < S.ename.length := (List.getElem?_eq_some_iff.mp hx2).1
  refine PS.of (ps_try_two (P.hs hc) (P.hf hc) (by rw [P.px.nm]; exact P.px.nd) hi hln (c := .ref (G.ea c)) (c2 := .ref (G.ea c2)) ⟨hg, hd, .inl (P.px.exn c x hx).1⟩ ⟨hg2, hd2, .inl (P.px.exn c2 y hx2).1⟩ P.px.tk hb hsu hsu2) fun Z σ H ⟨A, O, ρ, er, h⟩ => ?_
  rw [rn] at h
  refine ⟨A, O, ρ, er, ?_⟩
  cases e : rns T b ρ with
  | stk => rw [e] at h; exact h
  | ok f =>
    rw [e] at h
    cases f with
    | nx ρ1 => exact h
    | bk ρ1 => exact h
    | ct ρ1 => exact h
    | rt d ρ1 => exact h
  | exc z =>
    rw [e] at h
    obtain ⟨k, as⟩ := z
    intro cls dx σ' H' sH hq xr
    obtain ⟨rfl, sHH⟩ := hq rfl
    have xr' := xr
    obtain ⟨⟨hk, rfl⟩, _, _⟩ := xr'
    rw [← P.px.enE] at hk
    refine ⟨T.sub k c, P.px.exm k c hk hcl, fun eb a ha => ?_, fun eb => ?_⟩
    · have h : outS G W ex A₀ H₀ q A σ' H (match T.sub k c with
        | true => (noExc (rns T s (ρ.set i (some (.xc (.mk k as)))))).bind fun f => (match f with
          | .rt d ρ' => .ok (.rt d (ρ'.map fun _ => none))
          | .nx ρ' => .ok (.nx ((ρ'.set i none).map noXc))
          | _ => .stk)
        | false => (match T.sub k c2 with
          | true => (noExc (rns T s2 ρ)).bind fun f => (match f with
            | .rt d ρ' => .ok (.rt d (ρ'.map fun _ => none))
            | .nx ρ' => .ok (.nx (ρ'.map noXc))
            | _ => .stk)
          | false => .exc (.mk k as))) Z := h
      rw [eb] at h
      have er1 : ER G ⟨some (a, Value.ref (G.ea k), dx), ex.s⟩ A₀ H₀ (fr A H) O σ' H' ρ := (er.go sHH).ex' hex rfl
      have er2 := er1.set (i := i) (o := .xc (.mk k as)) (v := .ref a) (Oi := fun _ _ => False) ⟨a, _, dx, rfl, rfl, xr⟩ (fun _ _ z => z.elim) (fun _ _ _ _ z => z.elim) (fun _ _ _ z => z.elim)
      refine ⟨_, _, _, er2, ?_⟩
      cases es : rns T s (ρ.set i (some (.xc (.mk k as)))) with
      | stk => rw [es] at h; exact h
      | exc z => rw [es] at h; exact h.elim
      | ok f =>
        rw [es] at h
        cases f with
        | nx ρ1 => exact fun A' O' σ2 H2 er3 kk => h A' O' _ H2 ((er3.wipe1 (i := i) (σ' := σ2.set i none) (by rw [List.length_set]) fun j v hj e => by rw [List.getElem?_set_ne (fun z => hj z.symm)]; exact e).noX rfl) ((Keep.of sHH fun q z _ => .inl z).trans kk)
        | bk ρ1 => exact h.elim
        | ct ρ1 => exact h.elim
        | rt d ρ1 =>
          intro v A' O' σ2 H2 er3 kk hv
          refine h v A' (fun _ _ _ => False) σ2 H2 ⟨by rw [List.length_map]; exact er3.len, fun j o e => ?_, fun _ _ _ z => z.elim, fun _ _ _ _ _ z => z.elim, er3.sub, er3.same⟩ ((Keep.of sHH fun q z _ => .inl z).trans kk) hv
          rw [List.getElem?_map] at e
          cases hr : ρ1[j]? with
          | none => rw [hr] at e; cases e
          | some o => rw [hr] at e; cases e
    · refine ⟨T.sub k c2, P.px.exm k c2 hk hcl2, fun eb2 a ha => ?_, fun eb2 => ?_⟩
      · have h : outS G W ex A₀ H₀ q A σ' H (match T.sub k c with
          | true => (noExc (rns T s (ρ.set i (some (.xc (.mk k as)))))).bind fun f => (match f with
            | .rt d ρ' => .ok (.rt d (ρ'.map fun _ => none))
            | .nx ρ' => .ok (.nx ((ρ'.set i none).map noXc))
            | _ => .stk)
          | false => (match T.sub k c2 with
            | true => (noExc (rns T s2 ρ)).bind fun f => (match f with
              | .rt d ρ' => .ok (.rt d (ρ'.map fun _ => none))
              | .nx ρ' => .ok (.nx (ρ'.map noXc))
              | _ => .stk)
            | false => .exc (.mk k as))) Z := h
        have h := h
        rw [eb] at h
        dsimp only at h
        rw [eb2] at h
        have er1 : ER G ⟨some (a, Value.ref (G.ea k), dx), ex.s⟩ A₀ H₀ (fr A H) O σ' H' ρ := (er.go sHH).ex' hex rfl
        refine ⟨_, _, _, er1, ?_⟩
        cases es : rns T s2 ρ with
        | stk => rw [es] at h; exact h
        | exc z => rw [es] at h; exact h.elim
        | ok f =>
          rw [es] at h
          cases f with
          | nx ρ1 => exact fun A' O' σ2 H2 er3 kk => h A' O' _ H2 (er3.noX rfl) ((Keep.of sHH fun q z _ => .inl z).trans kk)
          | bk ρ1 => exact h.elim
          | ct ρ1 => exact h.elim
          | rt d ρ1 =>
            intro v A' O' σ2 H2 er3 kk hv
            refine h v A' (fun _ _ _ => False) σ2 H2 ⟨by rw [List.length_map]; exact er3.len, fun j o e => ?_, fun _ _ _ z => z.elim, fun _ _ _ _ _ z => z.elim, er3.sub, er3.same⟩ ((Keep.of sHH fun q z _ => .inl z).trans kk) hv
            rw [List.getElem?_map] at e
            obtain ⟨_, _, e2⟩ := Option.map_eq_some_iff.mp e
            cases e2
      · have h : outS G W ex A₀ H₀ q A σ' H (match T.sub k c with
          | true => (noExc (rns T s (ρ.set i (some (.xc (.mk k as)))))).bind fun f => (match f with
            | .rt d ρ' => .ok (.rt d (ρ'.map fun _ => none))
            | .nx ρ' => .ok (.nx ((ρ'.set i none).map noXc))
            | _ => .stk)
          | false => (match T.sub k c2 with
            | true => (noExc (rns T s2 ρ)).bind fun f => (match f with
              | .rt d ρ' => .ok (.rt d (ρ'.map fun _ => none))
              | .nx ρ' => .ok (.nx (ρ'.map noXc))
              | _ => .stk)
            | false => .exc (.mk k as))) Z := h
        rw [eb] at h
        dsimp only at h
        rw [eb2] at h
        exact h _ _ _ _ sH (fun _ => ⟨rfl, sHH⟩) xr

end
end PD
end

section
set_option Elab.async false
set_option linter.all false
set_option maxRecDepth 100000
set_option maxHeartbeats 4000000
/-! PD, part 15: xs[k] = e, d[k] = e, xs += e. -/
namespace PD
open PySem PySem.Spec PyProof.Rows L2
section
variable {G : Sg} {S : Sx} {T : Tab} {X : Cx} {L : Lo} {W : WX} {ex : ExI} {A₀ : Addr → Prop} {H₀ : Hp} {q : Bool}
theorem sub_step {i : Nat} {k e : Ex} {Z : Ends} {σ : L2.St} {H : Hp} (h : tS G T W ex A₀ H₀ q (.sub i k e) Z σ H) : tAsg (tD G T W ex A₀ H₀ e) (gSub (tVar i) (tD G T W ex A₀ H₀ k) rSetU) Z σ H := by
  obtain ⟨A, O, ρ, er, h⟩ := h
  rw [rn] at h
  refine seqE er h fun x v H1 _ s1 hv ho h1 => ?_
  obtain ⟨B, O', er2, k2', hv2, hO⟩ := er.keepV s1 hv
  generalize keepR ρ (roots e) x = ρ2 at er2 h1
  split at h1
  · rename_i o e0
    obtain ⟨w, e1, hw⟩ := er2.slot i _ (slotE_some e0)
    refine ⟨w, e1, ?_⟩
    refine seqE' (er.go s1) s1 h1 fun y yv H2 _ s2 hy _ h2 => ?_
    cases cf : froz y with
    | false => rw [cf] at h2; exact h2.elim
    | true =>
      rw [cf] at h2
      cases es : subO o y x with
      | stk => rw [es] at h2; exact h2.elim
      | exc e => exact (subO_exc es).elim
      | ok o' =>
        rw [es] at h2
        have er3 := er2.go s2
        have kB : ∀ q, B q → (H1 q).isSome = true → fr B H1 q := fun q z _ => .inl z
        obtain ⟨p', ho', rfl, hP, mu, nx, hq, hf⟩ := sub_fld (FldOk.to (o := o) s2 kB (fun _ z => z) hw) (hv2.to s2 kB) hy es
        refine hq _ ?_
        have nB := (er3.own _ _ _ hP).1
        exact h2 _ _ _ _ (er3.wr (i := i) (o' := .f o') (Oi := O' i) e1 ⟨_, hP⟩ mu nx (hf nB) (fun k q z => .inl z) fun k k' q z z' => (er3.uniq _ _ _ _ _ z z').2) ((k2'.trans (Keep.of s2 kB)).trans (Keep.wr mu nB))
  · exact h1.elim
theorem ss_sub {i : Nat} {x : Str} {k e : Ex} {ek ee : Expr} {p p2 pos : Pos} (P : PX G S T X L W ex) (hi : X.N[i]? = some x) (hv : Vis X.env.scope x) (hd : (x == ("__debug__" : Str)) = false) (hcd : (x == ("__classdict__" : Str)) = false) (hk : PE X ek (tD G T W ex A₀ H₀ k)) (he : PE X ee (tD G T W ex A₀ H₀ e)) (hs : notSlice ek = true) :
    PS X (.Assign [.Subscript (.Name x p) ek p2] ee pos) (tS G T W ex A₀ H₀ q (.sub i k e)) :=
  PS.of (ps_asg he (pg_sub (pe_var hi hv hd hcd) hk (set_any P.un) (asg_sub hs _)) (show swapsWith ee (some (.Subscript (.Name x p) ek p2)) pos.line X.env = pure false from swaps_other rfl _ _) (swapped_sub _) rfl) fun _ _ _ h => sub_step h
theorem set_same {α : Type} {l : List α} {i : Nat} {v : α} (h : l[i]? = some v) : l.set i v = l := by
  obtain ⟨hi, rfl⟩ := List.getElem?_eq_some_iff.mp h
  exact List.set_getElem_self hi
theorem ext_step {i : Nat} {e : Ex} {Z : Ends} {σ : L2.St} {H : Hp} (h : tS G T W ex A₀ H₀ q (.ext i e) Z σ H) : tAug i (tD G T W ex A₀ H₀ e) rExt2 Z σ H := by
  obtain ⟨A, O, ρ, er, h⟩ := h
  rw [rn] at h
  split at h
  · rename_i ds e0
    obtain ⟨v, e1, p, xs, rfl, h0, h1, h2⟩ := er.slot i _ (slotE_some e0)
    refine ⟨_, e1, ?_⟩
    refine seqE er h fun u w H1 hev s1 hw hof h3 => ?_
    obtain ⟨B, O', er2, k2, hw2, hO⟩ := er.keepV s1 hw
    split at h3
    · rename_i us
      cases hw2 with
      | @lst b zs _ b0 b1 b2 =>
        unfold appO at h3
        split at h3
        · rename_i ds2 e2
          obtain ⟨v2, e3, p2, xs2, rfl, j0, j1, j2⟩ := er2.slot i _ (slotE_some e2)
          rw [e1] at e3
          cases e3
          cases c : decide (ds2.length + us.length ≤ line) with
          | false => rw [c] at h3; exact h3.elim
          | true =>
            rw [c] at h3
            have hz := of_decide_eq_true c
            have mu : Mut (H1 p) := by rw [j1]; exact trivial
            refine ⟨p, b, xs2, zs, rfl, rfl, j1, b1, by rw [j2.length, b2.length, ← line_eq]; omega, ?_⟩
            have nB := (er2.own _ _ _ j0).1
            show Z.nx (List.set σ i (some (V.ref p))) (upd H1 p (HO.lst (xs2 ++ zs)))
            rw [set_same e1]
            exact h3 _ _ _ _ (er2.wr (Oi := O' i) e1 ⟨0, j0⟩ mu (fun fs z => by rw [j1] at z; cases z) ⟨p, _, rfl, j0, upd_same, (j2.append b2).upd mu nB⟩ (fun k q z => .inl z) fun k k' q z z' => (er2.uniq _ _ _ _ _ z z').2) (k2.trans (Keep.wr mu nB))
        · exact h3.elim
    · exact h3.elim
  · exact h.elim
theorem ss_ext {i : Nat} {x : Str} {e : Ex} {ee : Expr} {p pos : Pos} (P : PX G S T X L W ex) (hi : X.N[i]? = some x) (hx : Loc X.env.scope x) (hf : X.fn x = true ∨ X.env.scope.names.lookup x = some .local) (he : PE X ee (tD G T W ex A₀ H₀ e)) :
    PS X (.AugAssign (.Name x p) .Add ee pos) (tS G T W ex A₀ H₀ q (.ext i e)) :=
  PS.of (ps_aug (by rw [P.nm]; exact P.nd) hi hx he (fun pins s σ H x y v u Q I r1 r2 h => iop_ext pins s σ H x y v u Q I r1 r2 h) hf) fun _ _ _ h => ext_step h
theorem ss_extM {i : Nat} {x : Str} {e : Ex} {ee : Expr} {p apos cpos pos : Pos} (P : PX G S T X L W ex) (hi : X.N[i]? = some x) (hv : Vis X.env.scope x) (hd : (x == ("__debug__" : Str)) = false) (hcd : (x == ("__classdict__" : Str)) = false)
    (he : PE X ee (tD G T W ex A₀ H₀ e)) (hs : notStar ee = true) (hl : (apos.endLine == cpos.line) = true) : PS X (.Expr (.Call (.Attribute (.Name x p) "extend" apos) [ee] [] cpos) pos) (tS G T W ex A₀ H₀ q (.ext i e)) := by
  refine PS.of (ps_expr (pe_bm PySem.F.plainAttrs_list PySem.F.slot_list_extend PySem.F.type_list_extend mt_extend (pe_var hi hv hd hcd) (pa_cons he pa_nil (star_no hs _ _)) rfl (by rw [star_no hs]; rfl) hl (star_no hs _ _) rfl) rfl) fun Z σ H ⟨A, O, ρ, er, h⟩ => ?_
  rw [rn] at h
  split at h
  · rename_i ds e0
    obtain ⟨v, e1, p, xs, rfl, h0, h1, h2⟩ := er.slot i _ (slotE_some e0)
    refine ⟨_, e1, .inl ⟨rfl, xs, .of h1⟩, ?_⟩
    refine seqE er h fun u w H1 hev s1 hw hof h3 => ?_
    obtain ⟨B, O', er2, k2, hw2, hO⟩ := er.keepV s1 hw
    split at h3
    · rename_i us
      cases hw2 with
      | @lst b zs _ b0 b1 b2 =>
        unfold appO at h3
        split at h3
        · rename_i ds2 e2
          obtain ⟨v2, e3, p2, xs2, rfl, j0, j1, j2⟩ := er2.slot i _ (slotE_some e2)
          rw [e1] at e3
          cases e3
          cases c : decide (ds2.length + us.length ≤ line) with
          | false => rw [c] at h3; exact h3.elim
          | true =>
            rw [c] at h3
            have hz := of_decide_eq_true c
            have mu : Mut (H1 p) := by rw [j1]; exact trivial
            refine ⟨p, b, xs2, zs, rfl, rfl, j1, b1, by rw [j2.length, b2.length, ← line_eq]; omega, ?_⟩
            have nB := (er2.own _ _ _ j0).1
            exact h3 _ _ _ _ (er2.wr (Oi := O' i) e1 ⟨0, j0⟩ mu (fun fs z => by rw [j1] at z; cases z) ⟨p, _, rfl, j0, upd_same, (j2.append b2).upd mu nB⟩ (fun k q z => .inl z) fun k k' q z z' => (er2.uniq _ _ _ _ _ z z').2) (k2.trans (Keep.wr mu nB))
        · exact h3.elim
    · exact h3.elim
  · exact h.elim
end
end PD
end

section
set_option Elab.async false
set_option linter.all false
set_option maxRecDepth 100000
set_option maxHeartbeats 4000000
/-! PD, part 15b: for k in d, the dict locked. -/
namespace PD
open PySem PySem.Spec PyProof.Rows L2
/-- the same heap, but that a dict at d is locked, or is no longer -/
structure Sw (d : Addr) (H H' : Hp) : Prop where
  off : ∀ b, b ≠ d → H' b = H b
  rd : ∀ kv : List (Key × V), Rd H d (.dK kv) → Rd H' d (.dK kv)
  shape : ∃ kv : List (Key × V), H d = some (.dK kv) ∨ ∃ od, H d = some (.frz od (.dK kv))
section
variable {G : Sg} {A A' : Addr → Prop} {H H' : Hp} {d : Addr}
theorem Sw.ne {a : Addr} {o : HO} (s : Sw d H H') (h : H a = some o) (h1 : ∀ kv, o ≠ .dK kv) (h2 : ∀ od kv, o ≠ .frz od (.dK kv)) : a ≠ d := fun e => by
  subst e
  obtain ⟨kv, k | ⟨od, k⟩⟩ := s.shape
  · rw [h] at k; exact h1 kv (Option.some.inj k)
  · rw [h] at k; exact h2 od kv (Option.some.inj k)
theorem Sw.at' {a : Addr} {o : HO} (s : Sw d H H') (h : H a = some o) (h1 : ∀ kv, o ≠ .dK kv) (h2 : ∀ od kv, o ≠ .frz od (.dK kv)) : H' a = some o := (s.off a (s.ne h h1 h2)).trans h
theorem Sw.rdK {a : Addr} {kv : List (Key × V)} (s : Sw d H H') (h : Rd H a (.dK kv)) : Rd H' a (.dK kv) := by
  by_cases e : a = d
  · subst e; exact s.rd kv h
  · exact h.imp (fun z => (s.off a e).trans z) fun ⟨ob, z⟩ => ⟨ob, (s.off a e).trans z⟩
theorem Sw.rdT {a : Addr} {kv : List (List Key × V)} (s : Sw d H H') (h : Rd H a (.dT kv)) : Rd H' a (.dT kv) := by
  rcases h with h | ⟨ob, h⟩
  · exact .inl (s.at' h (fun _ z => nomatch z) fun _ _ z => nomatch z)
  · exact .inr ⟨ob, s.at' h (fun _ z => nomatch z) fun _ _ z => nomatch z⟩
mutual
theorem Has.sw (s : Sw d H H') : ∀ {x : D} {v : V}, Has G A H v x → Has G A H' v x
  | .non, _, h => by cases h; exact .non
  | .bl b, _, h => by cases h; exact .bl b
  | .int i, _, h => by cases h; exact .int i
  | .str t, _, h => by cases h; exact .str t
  | .tup ds, _, h => by
    cases h with
    | tup h1 h2 => exact .tup (s.at' h1 (fun _ z => nomatch z) fun _ _ z => nomatch z) (HasL.sw s h2)
  | .scr ds, _, h => by
    cases h with
    | scr h1 h2 => exact .scr (h1.imp (fun ⟨o, z⟩ => ⟨o, s.at' z (fun _ z => nomatch z) fun _ _ z => nomatch z⟩) id) (HasL.sw s h2)
  | .lst ds, _, h => by
    cases h with
    | lst h0 h1 h2 => exact .lst h0 (s.at' h1 (fun _ z => nomatch z) fun _ _ z => nomatch z) (HasL.sw s h2)
  | .dct t ds, _, h => by
    cases h with
    | dK h0 h1 h2 h3 => exact .dK h0 (s.rdK h1) h2 (HasL.swP s h3)
    | dT h0 h1 h2 h3 => exact .dT h0 (s.rdT h1) h2 (HasL.swP s h3)
  | .obj c ds, _, h => by
    cases h with
    | obj h0 h1 h2 h3 h4 h5 => exact .obj h0 (s.at' h1 (fun _ z => nomatch z) fun _ _ z => nomatch z) h2 h3 (HasL.sw s h4) h5
    | bok h0 h1 h2 h3 h4 h5 h6 h7 h8 => exact .bok h0 h1 (s.at' h2 (fun _ z => nomatch z) fun _ _ z => nomatch z) (s.at' h3 (fun _ z => nomatch z) fun _ _ z => nomatch z) h4 h5 h6 h7 (HasL.sw s h8)
theorem HasL.sw (s : Sw d H H') : ∀ {ds : List D} {vs : List V}, HasL G A H vs ds → HasL G A H' vs ds
  | [], _, h => by cases h; exact .nil
  | x :: ds, _, h => by
    cases h with
    | cons h1 h2 => exact .cons (Has.sw s h1) (HasL.sw s h2)
theorem HasL.swP (s : Sw d H H') : ∀ {ds : List (D × D)} {vs : List V}, HasL G A H vs (ds.map Prod.snd) → HasL G A H' vs (ds.map Prod.snd)
  | [], _, h => by cases h; exact .nil
  | (k, x) :: ds, _, h => by
    cases h with
    | cons h1 h2 => exact .cons (Has.sw s h1) (HasL.swP s h2)
end
theorem XR.sw (s : Sw d H H') : ∀ {x : Xc} {cls : Value} {dx : Option Addr}, XR G H x cls dx → XR G H' x cls dx
  | .mk c args, _, _, ⟨h1, h2, h3⟩ => ⟨h1, h2, h3.imp id fun ⟨v, p, w, e1, e2, e3, e4⟩ => ⟨v, p, w, e1, e2, s.at' e3 (fun _ z => nomatch z) (fun _ _ z => nomatch z), e4.sw s⟩⟩
theorem FldOk.sw {P : Addr → Prop} (s : Sw d H H') (nP : ¬ P d) {v : V} : ∀ {o : OF}, FldOk G A P H v o → FldOk G A P H' v o
  | .sh x, h => Has.sw s h
  | .ol ds, ⟨p, xs, e, h0, h1, h2⟩ => ⟨p, xs, e, h0, s.at' h1 (fun _ z => nomatch z) (fun _ _ z => nomatch z), h2.sw s⟩
  | .od true ds, ⟨p, e, h0, kvs, h1, h2, h3⟩ => ⟨p, e, h0, kvs, (s.off p fun z => nP (z ▸ h0)).trans h1, h2, h3.sw s⟩
  | .od false ds, ⟨p, e, h0, kvs, h1, h2, h3⟩ => ⟨p, e, h0, kvs, (s.off p fun z => nP (z ▸ h0)).trans h1, h2, h3.sw s⟩
theorem SlotOk.sw {ex : ExI} {O : Nat → Addr → Prop} (s : Sw d H H') (nO : ∀ k, ¬ O k d) {v : V} : ∀ {o : OD}, SlotOk G ex A O H v o → SlotOk G ex A O H' v o
  | .f x, h => FldOk.sw s (nO 0) h
  | .oo c fs, ⟨p, dx, fl, e, h0, h1, h2, h3, h4⟩ => ⟨p, dx, fl, e, h0, s.at' h1 (fun _ z => nomatch z) (fun _ _ z => nomatch z), h2, h3, fun i o w e1 e2 => (h4 i o w e1 e2).sw s (nO _)⟩
  | .xc x, ⟨a, cls, dx, e1, e2, e3⟩ => ⟨a, cls, dx, e1, e2, e3.sw s⟩
variable {ex : ExI} {A₁ A₂ : Addr → Prop} {H₁ H₂ : Hp} {O : Ow} {σ : L2.St} {ρ : Env}
theorem ER.re (er : ER G ex A₁ H₁ A O σ H ρ) (s : Sw d H H') (nO : ∀ j k, ¬ O j k d) (own : ∀ j k p, O j k p → H₂ p = none) (sub : ∀ q, A q → fr A₂ H₂ q) (same : Same H₂ H') : ER G ex A₂ H₂ A O σ H' ρ where
  len := er.len
  slot := fun j o e => let ⟨v, e1, e2⟩ := er.slot j o e; ⟨v, e1, e2.sw s (nO j)⟩
  own := fun j k p h => ⟨(er.own j k p h).1, by rw [s.off p fun z => nO j k (z ▸ h)]; exact (er.own j k p h).2.1, own j k p h⟩
  uniq := er.uniq
  sub := sub
  same := same
end
section
variable {G : Sg} {S : Sx} {T : Tab} {X : Cx} {L : Lo} {W : WX} {ex : ExI}
theorem PS.or {st : Stmt} {t1 t2 : TS} (h1 : PS X st t1) (h2 : PS X st t2) : PS X st (fun Z σ H => t1 Z σ H ∨ t2 Z σ H) := ⟨fun pins s σ H Z I h => h.elim (h1.run pins s σ H Z I) (h2.run pins s σ H Z I)⟩
theorem PG.exi {tg : Expr} {g : Tg} (h : ∀ A₀ H₀, PG X tg (tG G ex A₀ H₀ g)) : PG X tg (fun v σ H Q => ∃ A₀ H₀, tG G ex A₀ H₀ g v σ H Q) := ⟨fun pins s σ H v u Q I r ⟨A₀, H₀, q⟩ => (h A₀ H₀).run pins s σ H v u Q I r q⟩
theorem PSs.exi {sb : List Stmt} {b : Sts} (h : ∀ A₀ H₀, PSs X sb (tSs G T W ex A₀ H₀ false b)) : PSs X sb (fun Z σ H => ∃ A₀ H₀, tSs G T W ex A₀ H₀ false b Z σ H) := ⟨fun pins s σ H Z I ⟨A₀, H₀, q⟩ => (h A₀ H₀).run pins s σ H Z I q⟩
theorem key_has {A : Addr → Prop} {H : Hp} (k : Key) : Has G A H (kV k) (keyD k) := by
  cases k with
  | inl i => exact .int i
  | inr t => exact .str t
/-- what is behind the loop -/
def finZ (G : Sg) (ex : ExI) (A : Addr → Prop) (H₁ K : Hp) (Z : Ends) : Fl → Prop
  | .nx ρ' => ∀ A' O' σ' H', ER G ex A H₁ A' O' σ' H' ρ' → Keep G A K A' H' → Z.nx σ' H'
  | .rt x ρ' => ∀ v A' O' σ' H', ER G ex A H₁ A' O' σ' H' ρ' → Keep G A K A' H' → Has G A' H' v x → Z.rt v H'
  | _ => True
/-- the loop, the dict locked -/
theorem frD_core {g : Tg} {j : Nat} {b : Sts} {A : Addr → Prop} {H₁ K : Hp} {O : Ow} {σ : L2.St} {ρ : Env} {d : Addr} {od : Obj} {kv : List (Key × V)} {ds : List (D × D)} {f : Fl} {Z : Ends} (er : ER G ex A H₁ A O σ K ρ) (hd : H₁ d = some (.frz od (.dK kv))) (hk : ds.map Prod.fst = kv.map fun p => keyD p.1)
    (hv : σ[j]? = some (some (.ref d))) (hl : loopF (fun x ρ => (bindT g x ρ).bind fun ρ => rns T b ρ) (ds.map Prod.fst) ρ = .ok f)
    (fin : finZ G ex A H₁ K Z f) :
    tFor (iKeys (tVar j)) (fun v σ H Q => ∃ A₀ H₀, tG G ex A₀ H₀ g v σ H Q) (fun Z σ H => ∃ A₀ H₀, tSs G T W ex A₀ H₀ false b Z σ H) Z σ K := by
  refine ⟨_, hv, d, od, rfl, .inl ⟨kv, er.same _ _ hd, ?_⟩⟩
  have hlen : ds.length = kv.length := by
    have := congrArg List.length hk
    rw [List.length_map, List.length_map] at this
    exact this
  refine ⟨fun i m σ' H' => i + m = kv.length ∧ ∃ A' O' ρ', ER G ex A H₁ A' O' σ' H' ρ' ∧ Keep G A K A' H' ∧ loopF (fun x ρ => (bindT g x ρ).bind fun ρ => rns T b ρ) ((ds.map Prod.fst).drop i) ρ' = .ok f, ⟨kv.length, by omega, A, O, ρ, er, Keep.refl, hl⟩, ?_⟩
  rintro i m σ' H' ⟨hm, A', O', ρ', er', kk, h'⟩
  by_cases hi : kv.length ≤ i
  · rw [List.drop_eq_nil_of_le (by rw [List.length_map]; omega), loopF] at h'
    cases h'
    exact .inl ⟨⟨er'.same _ _ hd, hi⟩, fin A' O' σ' H' er' kk⟩
  · have hi : i < kv.length := by omega
    have hxk : (ds.map Prod.fst)[i]? = some (keyD kv[i].1) := by
      rw [hk, List.getElem?_map, List.getElem?_eq_getElem hi]; rfl
    rw [drop_cons hxk, loopF, bind_assoc] at h'
    refine .inr ⟨⟨er'.same _ _ hd, hi⟩, fun σ2 H2 => ∃ A2 O2 ρ2, ER G ex A H₁ A2 O2 σ2 H2 ρ2 ∧ Keep G A K A2 H2 ∧ loopF (fun x ρ => (bindT g x ρ).bind fun ρ => rns T b ρ) ((ds.map Prod.fst).drop (i + 1)) ρ2 = .ok f,
      fun σ2 H2 ⟨A2, O2, ρ2, k1, k2, k3⟩ => ⟨m - 1, by omega, by omega, A2, O2, ρ2, k1, k2, k3⟩, fun v H2 ⟨eH, k, w, e1, e2⟩ => ?_⟩
    subst eH e2
    rw [List.getElem?_eq_getElem hi] at e1
    have e1 := Option.some.inj e1
    refine ⟨A, H₁, A', O', ρ', keyD kv[i].1, er', by rw [e1]; exact key_has k, ?_⟩
    cases eb : bindT g (keyD kv[i].1) ρ' with
    | stk => rw [eb] at h'; cases h'
    | exc z => rw [eb] at h'; cases h'
    | ok ρ2 =>
      rw [eb] at h'
      intro O2 σ2 er2 _ _
      have h' : ((rns T b ρ2).bind fun r => match r with
        | .nx ρ => loopF (fun x ρ => (bindT g x ρ).bind fun ρ => rns T b ρ) ((ds.map Prod.fst).drop (i + 1)) ρ
        | .ct ρ => loopF (fun x ρ => (bindT g x ρ).bind fun ρ => rns T b ρ) ((ds.map Prod.fst).drop (i + 1)) ρ
        | .bk ρ => .ok (.nx ρ)
        | .rt d ρ => .ok (.rt d ρ)) = .ok f := h'
      refine ⟨A, H₁, A', O2, ρ2, er2, ?_⟩
      cases e : rns T b ρ2 with
      | stk => rw [e] at h'; cases h'
      | exc z => rw [e] at h'; cases h'
      | ok r =>
        rw [e] at h'
        cases r with
        | nx ρ3 => exact fun A3 O3 σ3 H3 er3 k => ⟨A3, O3, ρ3, er3, kk.trans k, h'⟩
        | ct ρ3 => exact fun A3 O3 σ3 H3 er3 k => ⟨A3, O3, ρ3, er3, kk.trans k, h'⟩
        | bk ρ3 =>
          cases h'
          exact fun A3 O3 σ3 H3 er3 k => fin A3 O3 σ3 H3 er3 (kk.trans k)
        | rt x ρ3 =>
          cases h'
          exact fun v A3 O3 σ3 H3 er3 k hv => fin v A3 O3 σ3 H3 er3 (kk.trans k) hv
variable {A₀ : Addr → Prop} {H₀ : Hp}
open Classical in
theorem frD_step {g : Tg} {j : Nat} {b : Sts} {Z : Ends} {σ : L2.St} {H : Hp} (h : tS G T W ex A₀ H₀ false (.frD g j b) Z σ H) :
    tLock (tFor (iKeys (tVar j)) (fun v σ H Q => ∃ A₀ H₀, tG G ex A₀ H₀ g v σ H Q) (fun Z σ H => ∃ A₀ H₀, tSs G T W ex A₀ H₀ false b Z σ H)) Z σ H ∨ tFor (iKeys (tVar j)) (fun v σ H Q => ∃ A₀ H₀, tG G ex A₀ H₀ g v σ H Q) (fun Z σ H => ∃ A₀ H₀, tSs G T W ex A₀ H₀ false b Z σ H) Z σ H := by
  obtain ⟨A, O, ρ, er, h⟩ := h
  rw [rn] at h
  split at h
  · rename_i ds e0
    cases hl : loopF (fun x ρ => (bindT g x ρ).bind fun ρ => rns T b ρ) (ds.map Prod.fst) ρ with
    | stk => rw [hl] at h; exact h.elim
    | exc x => rw [hl] at h; exact h.elim
    | ok f =>
      rw [hl] at h
      obtain ⟨v, e1, hv⟩ := er.slot j _ (slotE_some e0)
      have hv : Has G A H v (.dct false ds) := hv
      cases hv with
      | @dK d kv _ g0 g1 g2 g3 =>
        have nO : ∀ j k, ¬ O j k d := fun j k z => (er.own j k d z).1 g0
        -- a base heap without what is owned
        let base : Hp → Hp := fun K b => if ∃ j k, O j k b then none else K b
        have start : ∀ K, Sw d H K → ER G ex A (base K) A O σ K ρ := fun K s => er.re s nO (fun j k p z => if_pos ⟨j, k, z⟩) (fun q z => .inl z) fun p o e => by
          by_cases hp : ∃ j k, O j k p
          · rw [show base K p = none from if_pos hp] at e; cases e
          · rw [show base K p = K p from if_neg hp] at e; exact e
        have bd : ∀ K, base K d = K d := fun K => if_neg fun ⟨j, k, z⟩ => nO j k z
        have bn : ∀ K, Sw d H K → ∀ p, base K p = none → H₀ p = none := fun K s p e => by
          by_cases hp : ∃ j k, O j k p
          · obtain ⟨j, k, z⟩ := hp; exact (er.own j k p z).2.2
          · rw [show base K p = K p from if_neg hp] at e
            by_cases hpd : p = d
            · subst hpd
              have := s.rd _ g1
              rcases this with z | ⟨ob, z⟩
              · rw [z] at e; cases e
              · rw [z] at e; cases e
            · rw [s.off p hpd] at e
              exact same_none er.same e
        -- the way back
        have back : ∀ K, Sw d H K → (K d).isSome = true → ∀ A' O' σ' H' Hu ρ', ER G ex A (base K) A' O' σ' H' ρ' → Sw d H' Hu → Hu d = H d → ER G ex A₀ H₀ A' O' σ' Hu ρ' := fun K s hK A' O' σ' H' Hu ρ' er' s2 hu => by
          have nO' : ∀ j k, ¬ O' j k d := fun j k z => by
            have := (er'.own j k d z).2.2
            rw [bd] at this
            rw [this] at hK
            cases hK
          refine er'.re s2 nO' (fun j k p z => bn K s p (er'.own j k p z).2.2) (fun q z => ?_) fun p o e => ?_
          · rcases er'.sub q z with z | z
            · exact er.sub q z
            · exact .inr (bn K s q z)
          · have e' := er.same p o e
            by_cases hpd : p = d
            · subst hpd; rw [hu]; exact e'
            · rw [s2.off p hpd]
              refine er'.same p o ?_
              have : ¬ ∃ j k, O j k p := fun ⟨j, k, z⟩ => by
                have := (er.own j k p z).2.2
                rw [this] at e
                cases e
              rw [show base K p = K p from if_neg this, s.off p hpd]
              exact e'
        -- how it ends
        have ends : ∀ (K : Hp) (Z' : Ends), Sw d H K → (K d).isSome = true → (∀ A' O' σ' H' ρ', ER G ex A (base K) A' O' σ' H' ρ' → Keep G A K A' H' → ∃ Hu, Sw d H' Hu ∧ Hu d = H d ∧ (Z.nx σ' Hu → Z'.nx σ' H') ∧ ∀ v, Z.rt v Hu → Z'.rt v H') → finZ G ex A (base K) K Z' f := fun K Z' s hK hz => by
          have kp : ∀ A' H' Hu, Keep G A K A' H' → Sw d H' Hu → Keep G A H A' Hu := fun A' H' Hu kk s2 v x hx => (kk v x (hx.sw s)).sw s2
          cases f with
          | nx ρ' =>
            intro A' O' σ' H' er' kk
            obtain ⟨Hu, s2, hu, z1, _⟩ := hz A' O' σ' H' ρ' er' kk
            exact z1 (h A' O' σ' Hu (back K s hK A' O' σ' H' Hu ρ' er' s2 hu) (kp A' H' Hu kk s2))
          | rt x ρ' =>
            intro v A' O' σ' H' er' kk hv'
            obtain ⟨Hu, s2, hu, _, z2⟩ := hz A' O' σ' H' ρ' er' kk
            exact z2 v (h v A' O' σ' Hu (back K s hK A' O' σ' H' Hu ρ' er' s2 hu) (kp A' H' Hu kk s2) (hv'.sw s2))
          | bk _ => trivial
          | ct _ => trivial
        rcases g1 with hd | ⟨od, hd⟩
        · refine .inl ⟨d, .dK kv, hd, trivial, fun od => ?_⟩
          have sK : Sw d H (upd H d (.frz od (.dK kv))) := {
            off := fun b hb => upd_ne hb
            rd := fun o r => by
              rcases r with r | ⟨ob, r⟩
              · rw [hd] at r
                cases r
                exact .inr ⟨od, upd_same⟩
              · rw [hd] at r
                cases r
            shape := ⟨kv, .inl hd⟩ }
          have hb0 : base (upd H d (.frz od (.dK kv))) d = some (.frz od (.dK kv)) := by rw [bd, upd_same]
          refine frD_core (start _ sK) hb0 g2 e1 hl (ends _ _ sK (by rw [upd_same]; rfl) fun A' O' σ' H' ρ' er' kk => ?_)
          have hz : H' d = some (.frz od (.dK kv)) := er'.same _ _ hb0
          refine ⟨upd H' d (.dK kv), {
            off := fun b hb => upd_ne hb
            rd := fun o r => by
              rcases r with r | ⟨ob, r⟩
              · rw [hz] at r
                cases r
              · rw [hz] at r
                cases r
                exact .inl upd_same
            shape := ⟨kv, .inr ⟨od, hz⟩⟩ }, by rw [upd_same, hd], fun z => ⟨hz, z⟩, fun v z => ⟨hz, z⟩⟩
        · have sK : Sw d H H := ⟨fun _ _ => rfl, fun _ r => r, ⟨kv, .inr ⟨od, hd⟩⟩⟩
          have hb0 : base H d = some (.frz od (.dK kv)) := by rw [bd, hd]
          refine .inr (frD_core (start _ sK) hb0 g2 e1 hl (ends _ _ sK (by rw [hd]; rfl) fun A' O' σ' H' ρ' er' kk => ?_))
          have hz : H' d = some (.frz od (.dK kv)) := er'.same _ _ hb0
          exact ⟨H', ⟨fun _ _ => rfl, fun _ r => r, ⟨kv, .inr ⟨od, hz⟩⟩⟩, by rw [hz, hd], id, fun _ => id⟩
  · exact h.elim
theorem ss_frD {g : Tg} {j : Nat} {b : Sts} {tg : Expr} {x : Str} {sb : List Stmt} {p pos : Pos} (P : PY G S T X L W ex) (hc : L.cm = true) (hi : X.N[j]? = some x) (hv : Vis X.env.scope x) (hd : (x == ("__debug__" : Str)) = false) (hcd : (x == ("__classdict__" : Str)) = false)
    (hg : ∀ A₀ H₀, PG X tg (tG G ex A₀ H₀ g)) (hb : ∀ A₀ H₀, PSs X sb (tSs G T W ex A₀ H₀ false b)) : PS X (.For tg (.Name x p) sb [] pos) (tS G T W ex A₀ H₀ false (.frD g j b)) :=
  PS.of (PS.or (ps_lock (ps_for (P.pass hc) (P.px.calm hc) (pi_keys (pe_var hi hv hd hcd)) (PG.exi hg) (PSs.exi hb) fun _ => rfl)) (ps_for (P.pass hc) (P.px.calm hc) (pi_keys (pe_var hi hv hd hcd)) (PG.exi hg) (PSs.exi hb) fun _ => rfl)) fun _ _ _ h => frD_step h
end
end PD
end

section
set_option Elab.async false
set_option linter.all false
set_option maxRecDepth 100000
set_option maxHeartbeats 4000000
/-! PD, part 15c: stars in displays; dict comprehensions. -/
namespace PD
open PySem PySem.Spec PyProof.Rows L2
section
variable {G : Sg} {S : Sx} {T : Tab} {X : Cx} {L : Lo} {W : WX} {ex : ExI} {A₀ : Addr → Prop} {H₀ : Hp}
theorem sa_star {i : Ex} {r : Exs} {e : Expr} {es : List Expr} {p : Pos} (hG : X.K = G.K) (ha : PE X e (tD G T W ex A₀ H₀ i)) (hr : PA X es (tDs G T W ex A₀ H₀ r)) : PA X (.Starred e p :: es) (tDs G T W ex A₀ H₀ (.star i r)) := by
  refine PA.of (StX.pa_star ha hr) fun σ H Q ⟨A, O, ρ, er, h⟩ => ?_
  rw [evs] at h
  refine seq1L er h fun x v H1 _ s1 hv er1 h1 => ?_
  have go : ∀ {xs : List V} {ds : List D} , HasL G (fr (wi A O (roots i)) H) H1 xs ds → outL G W (fr (wi A O (rootsS (.star i r))) H) σ H1 ((evs T r ρ).bind fun ys => .ok (ds ++ ys)) Q → tDs G T W ex A₀ H₀ r σ H1 fun ys H2 => Q (xs ++ ys) H2 := by
    intro xs ds hx h1
    refine seqLL er1 h1 fun ys vs H2 _ s2 hw er2 h2 => ?_
    refine h2 _ H2 (Same.refl H2) (HasL.append (hx.mono (fun q z => .inl (.inl (fr_wi (fun j hj => List.mem_append_left _ hj) z))) s2) (hw.mono (fun q z => .inl (.inl (fr_fr s1 (B := wi (fr A H) O (rootsS r)) (fun q z => ?_) z))) (Same.refl H2)))
    rcases z with z | ⟨j, hj, k, z⟩
    · exact z.imp (fun z => .inl z) id
    · exact .inl (.inr ⟨j, List.mem_append_right _ hj, k, z⟩)
  cases x with
  | tup ds =>
    cases hv with
    | tup g1 g2 => exact ⟨_, _, rfl, .inl (.inl (.inl g1)), go g2 h1⟩
  | lst ds =>
    cases hv with
    | lst g0 g1 g2 => exact ⟨_, _, rfl, .inr (.inl (.inl g1)), go g2 h1⟩
  | _ => exact h1.elim
/-- what one turn of a dict comprehension gives -/
def turnD (T : Tab) (g : Tg) (ifs : Exs) (ke ve : Ex) (ρ : Env) (x : D) : R (List D) := (bindT g x ρ).bind fun ρ => (evAll T ifs ρ).bind fun k => match k with
    | true => (ev T ke ρ).bind fun y => (ev T ve ρ).bind fun z => guardR (keyOk false y && froz z) (.ok [.tup [y, z]])
    | false => .ok []
theorem dctOf_snoc (ys : List D) (k v : D) : dctOf (ys ++ [.tup [k, v]]) = PD.putK (dctOf ys) k v := by
  unfold dctOf
  rw [List.foldl_append]
  rfl
theorem dc_w (own : List (Str × Nat)) {g : Tg} {it : It} {ifs : Exs} {ke ve : Ex} (hn : ∀ j ∈ g.ns, j ∈ own.map (·.2)) {σ : L2.St} {H : Hp} {Q : VK} (h : tD G T W ex A₀ H₀ (.dc (own.map (·.2)) g it ifs ke ve) σ H Q) :
    tDc (tI G T W ex A₀ H₀ it) (tG G ex A₀ H₀ g) (tAll G T noW ex A₀ H₀ ifs) (tD G T noW ex A₀ H₀ ke) (tD G T noW ex A₀ H₀ ve) (own.map (·.2)) σ H Q := by
  obtain ⟨A, O, ρ, er, h⟩ := h
  rw [ev] at h
  refine seqI er h fun xs J H1 ps _ s1 hJ hp er1 h1 D hD => ?_
  generalize hvs : own.map (·.2) = vs at h1 hn
  have h1 : outD G W (fr (wi A O (roots (.dc vs g it ifs ke ve))) H) σ false H1 ((noExc (collect (turnD T g ifs ke ve (wipeE (unown ρ (rootsI it)) vs)) xs)).bind fun ys => guardR (decide (ys.length ≤ line)) (.ok (.dct false (dctOf ys)))) Q := h1
  cases ec : collect (turnD T g ifs ke ve (wipeE (unown ρ (rootsI it)) vs)) xs with
  | stk => rw [ec] at h1; exact h1.elim
  | exc x => rw [ec] at h1; exact h1.elim
  | ok ys =>
    rw [ec] at h1
    have h1 : outD G W (fr (wi A O (roots (.dc vs g it ifs ke ve))) H) σ false H1 (guardR (decide (ys.length ≤ line)) (.ok (.dct false (dctOf ys)))) Q := h1
    cases c : decide (ys.length ≤ line) with
    | false => rw [c] at h1; exact h1.elim
    | true =>
      rw [c] at h1
      have h1 : Res G (fr (wi A O (roots (.dc vs g it ifs ke ve))) H) false H1 (.dct false (dctOf ys)) Q := h1
      have hlen := of_decide_eq_true c
      have er2 := ((er1.un (rootsI it)).wipe vs)
      generalize hρ : wipeE (unown ρ (rootsI it)) vs = ρ' at er2 ec
      let B : Addr → Prop := fun q => ((fr A H q ∨ ow O (rootsI it) q) ∨ H1 q = none) ∧ q ≠ D
      let O' : Ow := fun j k p => O j k p ∧ j ∉ rootsI it
      have nD : ¬ B D := fun z => z.2 rfl
      have ownD : ∀ j k, ¬ O j k D := fun j k z => by
        have := (er1.own j k D z).2.1
        rw [hD] at this
        cases this
      have D0 : H₀ D = none := same_none er1.same hD
      have bk : ∀ {Hc : Hp}, Same H1 Hc → (Hc D).isSome = true → ∀ q, fr B Hc q → B q := fun {Hc} s hs q z => by
        rcases z with z | z
        · exact z
        · refine ⟨.inr (same_none s z), fun e => ?_⟩
          subst e
          rw [z] at hs
          cases hs
      refine ⟨fun i m Hc => i + m = xs.length ∧ Same H1 Hc ∧ ER G ex A₀ H₀ B O' (L2.wipe σ vs) Hc ρ' ∧ (∀ p ∈ ps, Has G B Hc p.1 p.2) ∧ ∃ (acc : List (Key × V)) (y1 y2 : List PD.D), Hc D = some (.dK acc) ∧ (dctOf y1).map Prod.fst = acc.map (fun p => keyD p.1) ∧ HasL G (fun _ => False) Hc (acc.map Prod.snd) ((dctOf y1).map Prod.snd) ∧ acc.length ≤ y1.length ∧
        collect (turnD T g ifs ke ve ρ') (xs.drop i) = .ok y2 ∧ ys = y1 ++ y2, ⟨xs.length, by omega, ?_, ?_, ?_, [], [], ys, upd_same, rfl, .nil, Nat.le_refl _, ec, rfl⟩, ?_⟩
      · exact same_upd hD
      · have er3 : ER G ex A₀ H₀ B O' (L2.wipe σ vs) H1 ρ' := er2.move (Same.refl H1) (fun q z zs => ⟨.inl z, fun e => by subst e; rw [hD] at zs; cases zs⟩) fun q z => z.1
        exact er3.move (same_upd hD) (fun q z _ => z) fun q z => .inl z
      · intro p hp'
        refine (hp p hp').to (same_upd hD) fun q z zs => ⟨.inl ?_, fun e => by subst e; rw [hD] at zs; cases zs⟩
        rcases z with (z | z) | z
        · exact .inl (.inl z)
        · exact .inr z
        · exact .inl (.inr z)
      · rintro i m Hc ⟨hm, sc, erc, hpc, acc, y1, y2, hacc, hky, hh, hle, hcol, hy⟩
        cases hx : xs[i]? with
        | none =>
          have hi : xs.length ≤ i := List.getElem?_eq_none_iff.mp hx
          refine .inl ⟨hJ.stop B Hc i hpc hi, ?_⟩
          rw [List.drop_eq_nil_of_le hi] at hcol
          cases hcol
          rw [List.append_nil] at hy
          subst hy
          exact h1 _ Hc sc (.dK (.inr hD) (.inl hacc) hky (hh.mono (fun q z => z.elim) (Same.refl _))) fun e => absurd e Bool.false_ne_true
        | some x =>
          obtain ⟨g1, g2⟩ := hJ.go B Hc i x hpc hx
          rw [drop_cons hx] at hcol
          obtain ⟨ya, yb, c1, c2, rfl⟩ := collect_cons hcol
          have hi : i < xs.length := (List.getElem?_eq_some_iff.mp hx).1
          refine .inr ⟨g1, fun H' => Same H1 H' ∧ ER G ex A₀ H₀ B O' (L2.wipe σ vs) H' ρ' ∧ (∀ p ∈ ps, Has G B H' p.1 p.2) ∧ ∃ acc : List (Key × V), H' D = some (.dK acc) ∧ (dctOf (y1 ++ ya)).map Prod.fst = acc.map (fun p => keyD p.1) ∧ HasL G (fun _ => False) H' (acc.map Prod.snd) ((dctOf (y1 ++ ya)).map Prod.snd) ∧ acc.length ≤ (y1 ++ ya).length,
            fun H' ⟨k1, k2, k3, acc', k4, k5, k6, k7⟩ => ⟨m - 1, by omega, by omega, k1, k2, k3, acc', y1 ++ ya, yb, k4, k5, k6, k7, c2, by rw [hy, List.append_assoc]⟩, fun v H2 hy2 => ?_⟩
          obtain ⟨s2, hv⟩ := g2 v H2 hy2
          have sc2 := same_tr sc s2
          have hD2 : H2 D = some (.dK acc) := s2 _ _ hacc
          have er4 : ER G ex A₀ H₀ B O' (L2.wipe σ vs) H2 ρ' := erc.move s2 (fun q z _ => z) fun q z => .inl z
          have hv2 : Has G B H2 v x := hv.mono (bk sc (by rw [hacc]; rfl)) (Same.refl _)
          obtain ⟨ρ2, b1, c1⟩ := bind_ok c1
          refine ⟨B, O', ρ', x, er4, hv2, ?_⟩
          rw [b1]
          intro O2 σ2 er5 w5 o5
          refine ⟨by rw [w5 vs hn, wipe_wipe], ?_⟩
          obtain ⟨k, b2, c1⟩ := bind_ok c1
          refine ⟨B, O2, ρ2, er5, ?_⟩
          rw [b2]
          intro H3 s3
          have sc3 := same_tr sc2 s3
          have hD3 : H3 D = some (.dK acc) := s3 _ _ hD2
          have hp3 : ∀ p ∈ ps, Has G B H3 p.1 p.2 := fun p z => (hpc p z).mono (fun _ z => z) (same_tr s2 s3)
          have er6 : ER G ex A₀ H₀ B O' (L2.wipe σ vs) H3 ρ' := erc.move (same_tr s2 s3) (fun q z _ => z) fun q z => .inl z
          cases k with
          | false =>
            cases c1
            rw [if_neg Bool.false_ne_true, List.append_nil]
            exact ⟨sc3, er6, hp3, acc, hD3, hky, hh.mono (fun _ z => z) (same_tr s2 s3), hle⟩
          | true =>
            obtain ⟨y, b3, c1⟩ := bind_ok c1
            obtain ⟨z, b4, c1⟩ := bind_ok c1
            obtain ⟨cg, c1⟩ := guardR_ok c1
            cases c1
            obtain ⟨cg1, cg2⟩ := bb cg
            rw [if_pos rfl]
            have er7 : ER G ex A₀ H₀ B O2 σ2 H3 ρ2 := er5.move s3 (fun q z _ => z) fun q z => .inl z
            refine ⟨B, O2, ρ2, er7, ?_⟩
            rw [b3]
            intro wk H4 s4 hwk _
            obtain ⟨key, ek1, ek2⟩ := key_int hwk cg1
            subst ek1 ek2
            have hD4 : H4 D = some (.dK acc) := s4 _ _ hD3
            have er8 : ER G ex A₀ H₀ B O2 σ2 H4 ρ2 := er7.move s4 (fun q z _ => z) fun q z => .inl z
            refine ⟨B, O2, ρ2, er8, ?_⟩
            rw [b4]
            intro w H5 s5 hw _
            have hD5 : H5 D = some (.dK acc) := s5 _ _ hD4
            have sc5 := same_tr (same_tr sc3 s4) s5
            have sA := same_tr (same_tr (same_tr s2 s3) s4) s5
            have mu : Mut (H5 D) := by rw [hD5]; exact trivial
            have nx : ∀ fs, H5 D ≠ some (.xd fs) := fun fs z => by rw [hD5] at z; cases z
            have hlt : acc.length < sizeLine := by
              rw [← line_eq]
              have := congrArg List.length hy
              rw [List.length_append, List.length_append, List.length_singleton] at this
              omega
            obtain ⟨q1, q2⟩ := putK_rel eqD_key key (Has.froz (A' := fun _ => False) cg2 hw) hky (hh.mono (fun _ z => z) sA)
            refine ⟨acc, key, rfl, hD5, hlt, ?_, ?_, ?_, L2.putK acc key w, upd_same, ?_, ?_, ?_⟩
            · exact fun b x e => by
                rw [upd_ne (ne_of_none e hD)]
                exact sc5 b x e
            · have er9 : ER G ex A₀ H₀ B O' (L2.wipe σ vs) H5 ρ' := erc.move sA (fun q z _ => z) fun q z => .inl z
              exact er9.updF mu nx nD (fun j k z => ownD j k z.1) D0
            · exact fun p z => ((hpc p z).mono (fun _ z => z) sA).upd mu nD
            · rw [dctOf_snoc]
              exact q1
            · rw [dctOf_snoc]
              exact q2.upd mu id
            · rw [List.length_append, List.length_singleton]
              exact Nat.le_trans (length_putK acc key w) (Nat.succ_le_succ hle)
theorem se_dc {own : List (Str × Nat)} {g : Tg} {it : It} {ifs : Exs} {ke ve : Ex} {kx vx tg iter : Expr} {xifs : List Expr} {scope : Scope} {pos : Pos} (P : PX G S T X L W ex) (hc : L.cm = true) (hi : PI X tg iter (tI G T W ex A₀ H₀ it)) (ok : BlkOk X.N X.env.scope scope own)
    (hg : ∀ (s : Shared) (H : Hp) (C : Addr) (cl : List (Str × Addr)) (fp : List Addr), PG (X.blk s H scope (compEnvC scope cl C X.env) fp) tg (tG G ex A₀ H₀ g))
    (ht : ∀ (s : Shared) (H : Hp) (C : Addr) (cl : List (Str × Addr)) (fp : List Addr), PTs (X.blk s H scope (compEnvC scope cl C X.env) fp) xifs (tAll G T noW ex A₀ H₀ ifs))
    (hk : ∀ (s : Shared) (H : Hp) (C : Addr) (cl : List (Str × Addr)) (fp : List Addr), PE (X.blk s H scope (compEnvC scope cl C X.env) fp) kx (tD G T noW ex A₀ H₀ ke))
    (he : ∀ (s : Shared) (H : Hp) (C : Addr) (cl : List (Str × Addr)) (fp : List Addr), PE (X.blk s H scope (compEnvC scope cl C X.env) fp) vx (tD G T noW ex A₀ H₀ ve))
    (hs : ∀ x, foldedSetIterable iter X.env x = pure x) (hn : ∀ j ∈ g.ns, j ∈ own.map (·.2)) : PE X (.DictComp kx vx [⟨tg, iter, xifs, 0⟩] scope pos) (tD G T W ex A₀ H₀ (.dc (own.map (·.2)) g it ifs ke ve)) :=
  PE.of (pe_dc (P.calm hc) (by rw [P.nm]; exact P.nd) hi ok hg ht hk he hs) fun σ H Q h => dc_w own hn h
end
end PD
end

section
set_option Elab.async false
set_option linter.all false
set_option maxRecDepth 100000
set_option maxHeartbeats 2000000
/-! PD, part 13b: dict(d), dict(zip(xs, ys)). -/
namespace PD
open PySem PySem.Spec PyProof.Rows L2
section
variable {G : Sg} {S : Sx} {T : Tab} {X : Cx} {L : Lo} {W : WX} {ex : ExI} {A₀ : Addr → Prop} {H₀ : Hp}
/-- a new dict of frozen values -/
theorem new_dK {A : Addr → Prop} {A' : Addr → Prop} {H : Hp} {kvs : List (D × D)} {kv : List (Key × V)} {Q : VK} (h : Res G A true H (.dct false kvs) Q) (hk : kvs.map Prod.fst = kv.map (fun p => keyD p.1)) (hv : HasL G A' H (kv.map Prod.snd) (kvs.map Prod.snd)) (hf : frozs (kvs.map Prod.snd) = true) {p : Addr} (hp : H p = none) : Q (.ref p) (upd H p (.dK kv)) := by
  have hv' : HasL G (fun _ => False) (upd H p (.dK kv)) (kv.map Prod.snd) (kvs.map Prod.snd) := (HasL.froz hf hv).mono (fun _ z => z) (same_upd hp)
  exact h _ _ (same_upd hp) (.dK (.inr hp) (.inl upd_same) hk (hv'.mono (fun _ z => z.elim) (Same.refl _))) fun _ => ⟨p, rfl, hp, kv, upd_same, hk, hv'⟩
theorem se_dC {a : Ex} {ea : Expr} {p pos : Pos} (P : PX G S T X L W ex) (hf : ("dict" : Str) ∈ S.free) (hg : Gl X "dict") (hs : notStar ea = true) (ha : PE X ea (tD G T W ex A₀ H₀ a)) : PE X (.Call (.Name "dict" p) [ea] [] pos) (tD G T W ex A₀ H₀ (.dC a)) := by
  refine PE.of (pe_callTy call_dictD hg (P.free _ hf) boot_dict (pa_cons ha pa_nil (star_no hs [] _)) (by decide) (by decide) (star_no hs [] _) (stars_no (es := []) rfl _ _)) fun σ H Q ⟨A, O, ρ, er, h⟩ => ?_
  rw [ev] at h
  refine seq1 er h fun x v H1 _ s1 hv er1 h1 => ?_
  cases hv with
  | @dK q kv kvs h0 k1 k2 k3 =>
    have h1 : outD G W _ σ true H1 (guardR (frozs (kvs.map Prod.snd)) (.ok (.dct false kvs))) Q := h1
    cases c : frozs (kvs.map Prod.snd) with
    | false => rw [c] at h1; exact h1.elim
    | true =>
      rw [c] at h1
      exact ⟨q, kv, rfl, k1, fun p hp => new_dK h1 k2 k3 c hp⟩
  | _ => exact h1.elim
theorem keysK_of {A : Addr → Prop} {H : Hp} : ∀ {ds : List D} {vs : List V}, HasL G A H vs ds → ds.all (keyOk false) = true → ∃ ks : List Key, vs = ks.map kV ∧ ds = ks.map keyD
  | [], _, h, _ => by cases h; exact ⟨[], rfl, rfl⟩
  | d :: ds, _, h, c => by
    cases h with
    | cons h1 h2 =>
      rw [List.all_cons, Bool.and_eq_true] at c
      obtain ⟨k, e2, e1⟩ := key_int h1 c.1
      obtain ⟨ks, e3, e4⟩ := keysK_of h2 c.2
      exact ⟨k :: ks, by rw [e1, e3]; rfl, by rw [e2, e4]; rfl⟩
theorem merge_rel {B : Addr → Prop} {H : Hp} : ∀ {ks : List Key} {ws : List V} {ds : List D}, HasL G B H ws ds → ∀ {kv : List (Key × V)} {kvs : List (D × D)}, kvs.map Prod.fst = kv.map (fun p => keyD p.1) → HasL G B H (kv.map Prod.snd) (kvs.map Prod.snd) →
    ((zipD (ks.map keyD) ds).foldl putP kvs).map Prod.fst = (mergeK kv (ks.zip ws)).map (fun p => keyD p.1) ∧ HasL G B H ((mergeK kv (ks.zip ws)).map Prod.snd) (((zipD (ks.map keyD) ds).foldl putP kvs).map Prod.snd)
  | [], ws, ds, _, kv, kvs, h1, h2 => ⟨h1, h2⟩
  | k :: ks, ws, [], h, kv, kvs, h1, h2 => by cases h; exact ⟨h1, h2⟩
  | k :: ks, ws, d :: ds, h, kv, kvs, h1, h2 => by
    cases h with
    | cons g1 g2 =>
      obtain ⟨q1, q2⟩ := putK_rel eqD_key k g1 h1 h2
      exact merge_rel (ks := ks) g2 q1 q2
theorem frozs_put {k v : D} (hv : froz v = true) : ∀ {kvs : List (D × D)}, frozs (kvs.map Prod.snd) = true → frozs ((PD.putK kvs k v).map Prod.snd) = true := by
  have app : ∀ {xs ys : List D}, frozs xs = true → frozs ys = true → frozs (xs ++ ys) = true := by
    intro xs
    induction xs with
    | nil => exact fun _ h => h
    | cons x xs ih =>
      intro ys h1 h2
      obtain ⟨a, b⟩ := bb (show (froz x && frozs xs) = true from by simpa [frozs] using h1)
      show frozs (x :: (xs ++ ys)) = true
      rw [frozs, a, ih b h2]
      rfl
  have mp : ∀ {kvs : List (D × D)}, frozs (kvs.map Prod.snd) = true → frozs ((kvs.map fun p => if eqD p.1 k then (p.1, v) else p).map Prod.snd) = true := by
    intro kvs
    induction kvs with
    | nil => exact fun h => h
    | cons p kvs ih =>
      intro h
      obtain ⟨a, b⟩ := bb (show (froz p.2 && frozs (kvs.map Prod.snd)) = true from by simpa [frozs] using h)
      rw [List.map_cons, List.map_cons, frozs, ih b]
      by_cases z : eqD p.1 k = true
      · rw [if_pos z, hv]; rfl
      · rw [if_neg z, a]; rfl
  intro kvs h
  unfold PD.putK
  by_cases z : (kvs.any fun p => eqD p.1 k) = true
  · rw [if_pos z]; exact mp h
  · rw [if_neg z, List.map_append]
    exact app h (by show (froz v && true) = true; rw [hv]; rfl)
theorem frozs_zip : ∀ {xs ys : List D} {kvs : List (D × D)}, frozs ys = true → frozs (kvs.map Prod.snd) = true → frozs (((zipD xs ys).foldl putP kvs).map Prod.snd) = true
  | [], ys, kvs, _, h => h
  | x :: xs, [], kvs, _, h => h
  | x :: xs, y :: ys, kvs, hy, h => by
    obtain ⟨a, b⟩ := bb (show (froz y && frozs ys) = true from by simpa [frozs] using hy)
    exact frozs_zip (xs := xs) b (frozs_put a h)
theorem se_dZ {a b : Ex} {ea eb : Expr} {p p2 pos pos2 : Pos} (P : PX G S T X L W ex) (hc : L.cm = true) (hf : ("dict" : Str) ∈ S.free) (hg : Gl X "dict") (hf2 : ("zip" : Str) ∈ S.free) (hg2 : Gl X "zip") (h1 : notStar ea = true) (h2 : notStar eb = true) (ha : PE X ea (tD G T W ex A₀ H₀ a)) (hb : PE X eb (tD G T W ex A₀ H₀ b)) :
    PE X (.Call (.Name "dict" p) [.Call (.Name "zip" p2) [ea, eb] [] pos2] [] pos) (tD G T W ex A₀ H₀ (.dZ a b)) := by
  refine PE.of (PDZip.pe_dz (P.calm hc) hg (P.free _ hf) hg2 (P.free _ hf2) (pa_cons ha (pa_cons hb pa_nil (star_no h2 [] _)) (star_no h1 [eb] _)) (star_no h1 [eb] _) (stars_no (es := [eb]) (by show (notStar eb && true) = true; rw [h2]; rfl) _ _)) fun σ H Q ⟨A, O, ρ, er, h⟩ => ?_
  rw [ev] at h
  refine seq1 er h fun x v H1 _ s1 hv er1 h1 => ?_
  refine seq1 er1 h1 fun y w H2 _ s2 hw er2 h2 => ?_
  cases hv with
  | @tup qa xs ds k1 k2 =>
    cases hw with
    | @tup qb ys es k3 k4 =>
      have h2 : outD G W _ σ true H2 (guardR (ds.all (keyOk false) && frozs es) (.ok (.dct false (dctOf (zipD ds es))))) Q := h2
      cases c : ds.all (keyOk false) && frozs es with
      | false => rw [c] at h2; exact h2.elim
      | true =>
        rw [c] at h2
        obtain ⟨c1, c2⟩ := bb c
        obtain ⟨ks, e1, e2⟩ := keysK_of k2 c1
        subst e1 e2
        obtain ⟨m1, m2⟩ := merge_rel (ks := ks) (HasL.froz (A' := fun _ => False) c2 k4) (kv := []) (kvs := []) rfl .nil
        exact ⟨qa, qb, ks, ys, rfl, .inl (.inl (s2 _ _ k1)), .inl (.inl k3), fun p hp => new_dK h2 m1 m2 (frozs_zip c2 rfl) hp⟩
    | _ => exact h2.elim
  | _ =>
    cases hw <;> exact h2.elim
end
end PD
end

section
set_option Elab.async false
set_option linter.all false
set_option maxRecDepth 100000
set_option maxHeartbeats 4000000
/-! PD, part 15d: comprehensions of any number of clauses, lists and dicts. -/
namespace PD
open PySem PySem.Spec PyProof.Rows L2
section
variable {prog : Program} {w : World} {A : Around} {R : Result → Shared → Prop} {s : Shared} {e : Expr} {d : Nat} {tg iter : Expr} {ifs : List Expr} {it acc : Value} {env : PySem.Env} {body : Sem Unit}
/-- a clause's turn; what it goes on with where the tests hold; where not -/
def turnC (tg iter : Expr) (ifs : List Expr) (it : Value) (env : PySem.Env) (yes more : Sem Fin) : Sem Fin := do
  standAt iter.pos
  match ← pyNext it with
  | none => pure (.done .next)
  | some v =>
    letOwnedTupleGo tg it v
    assign tg env v
    let ok ← forIn ifs true fun c r => if r = true then do let ok ← isTrue c env (eval c env); pure (ForInStep.yield ok) else pure (ForInStep.yield r)
    if ok = true then yes else more
/-- the next clause's start -/
def startC (e : Expr) (d : Nat) (i1 : Expr) (acc : Value) (env : PySem.Env) (more : Sem Fin) : Sem Fin := do
  let x ← eval i1 env
  standAt i1.pos
  let x ← foldedSetIterable i1 env x
  let _ ← runOwn (.compStart e d (← holding [x] (pyIter x)) acc env) env
  more
/-- what the last clause does -/
def emitL (elt : Expr) (acc : Value) (env : PySem.Env) : Sem Unit := do let _ ← call (.builtin "list.append") [acc, ← eval elt env]
def emitD (kx vx : Expr) (D : Addr) (env : PySem.Env) : Sem Unit := do
  let kv ← eval kx env
  let vv ← holding [kv] (eval vx env)
  standAt { kx.pos with endLine := vx.pos.endLine, endCol := vx.pos.endCol }
  holding [kv, vv] (dictSet D kv vv)
theorem turn_midL {elt : Expr} {gens : List Comprehension} {scope : Scope} {pos : Pos} {t1 i1 : Expr} {ifs1 : List Expr} (h0 : gens[d]? = some ⟨tg, iter, ifs, 0⟩) (h1 : gens[d + 1]? = some ⟨t1, i1, ifs1, 0⟩) :
    compTurn (.ListComp elt gens scope pos) d it acc env = turnC tg iter ifs it env (startC (.ListComp elt gens scope pos) (d + 1) i1 acc env (again (.compLoop (.ListComp elt gens scope pos) d it acc env))) (again (.compLoop (.ListComp elt gens scope pos) d it acc env)) := by
  unfold compTurn turnC startC
  simp only [h0, h1]
  rfl
theorem turn_lastL {elt : Expr} {gens : List Comprehension} {scope : Scope} {pos : Pos} (h0 : gens[d]? = some ⟨tg, iter, ifs, 0⟩) (h1 : gens[d + 1]? = none) :
    compTurn (.ListComp elt gens scope pos) d it acc env = turnC tg iter ifs it env (emitL elt acc env >>= fun _ => again (.compLoop (.ListComp elt gens scope pos) d it acc env)) (again (.compLoop (.ListComp elt gens scope pos) d it acc env)) := by
  unfold compTurn turnC
  simp only [h0, h1]
  rfl
theorem turn_midD {kx vx : Expr} {gens : List Comprehension} {scope : Scope} {pos : Pos} {t1 i1 : Expr} {ifs1 : List Expr} (h0 : gens[d]? = some ⟨tg, iter, ifs, 0⟩) (h1 : gens[d + 1]? = some ⟨t1, i1, ifs1, 0⟩) :
    compTurn (.DictComp kx vx gens scope pos) d it acc env = turnC tg iter ifs it env (startC (.DictComp kx vx gens scope pos) (d + 1) i1 acc env (again (.compLoop (.DictComp kx vx gens scope pos) d it acc env))) (again (.compLoop (.DictComp kx vx gens scope pos) d it acc env)) := by
  unfold compTurn turnC startC
  simp only [h0, h1]
  rfl
theorem turn_lastD {kx vx : Expr} {gens : List Comprehension} {scope : Scope} {pos : Pos} {D : Addr} (h0 : gens[d]? = some ⟨tg, iter, ifs, 0⟩) (h1 : gens[d + 1]? = none) :
    compTurn (.DictComp kx vx gens scope pos) d it (.ref D) env = turnC tg iter ifs it env (emitD kx vx D env >>= fun _ => again (.compLoop (.DictComp kx vx gens scope pos) d it (.ref D) env)) (again (.compLoop (.DictComp kx vx gens scope pos) d it (.ref D) env)) := by
  unfold compTurn turnC
  simp only [h0, h1]
  rfl
/-- the loop of a clause -/
theorem loop_cl {yes : Sem Fin} (ht : compTurn e d it acc env = turnC tg iter ifs it env yes (again (.compLoop e d it acc env))) (hu : A.under (.compLoop e d it acc env) = A) (hq : (Code.compLoop e d it acc env).quiet = true)
    (hd : (model prog w).den (.compLoop e d it acc env) = (compTurn e d it acc env).onRaise (fun x => do noteFrame x env; theTreesLotGoes x)) (I : Nat → Shared → Prop)
    (turn : ∀ n s, I n s → wpAny (model prog w) A (pyNext it) (fun r s₁ => match r with
      | none => R (.ok .next) s₁
      | some v => wpAny (model prog w) A (letOwnedTupleGo tg it v) (fun _ s₁' => wpAny (model prog w) A (assign tg env v) (fun _ s₂ =>
          wpAny (model prog w) A (forIn ifs true fun c r => if r = true then do let ok ← isTrue c env (eval c env); pure (ForInStep.yield ok) else pure (ForInStep.yield r)) (fun ok s₃ =>
            if ok = true then wpAny (model prog w) A yes (fun fin s₄ => match fin with | .done f => R (.ok f) s₄ | .again c' => c' = .compLoop e d it acc env ∧ ∃ m, m < n ∧ I m s₄) (notedBy (model prog w) A env fun e s' => R (.error e) s') s₃
            else ∃ m, m < n ∧ I m s₃) (notedBy (model prog w) A env fun e s' => R (.error e) s') s₂) (notedBy (model prog w) A env fun e s' => R (.error e) s') s₁') (notedBy (model prog w) A env fun e s' => R (.error e) s') s₁) (notedBy (model prog w) A env fun e s' => R (.error e) s') s)
    (n : Nat) (h : I n s) : codeAny (model prog w) A (.compLoop e d it acc env) R s := by
  refine codeAny_loop hq I (fun n s hI => ?_) n h
  rw [hu, hd]
  refine wpAny_noted ?_
  rw [ht]
  unfold turnC
  refine wpAny_bind (wpAny_standAt (wpAny_bind (wpAny_mono (turn n s hI) (fun r s₁ h₁ => ?_) fun _ _ h' => h')))
  cases r with
  | none => exact wpAny_pure h₁
  | some v =>
    refine wpAny_bind (wpAny_mono h₁ (fun _ s₁' h₁' => ?_) fun _ _ h' => h')
    refine wpAny_bind (wpAny_mono h₁' (fun _ s₂ h₂ => wpAny_bind (wpAny_mono h₂ (fun ok s₃ h₃ => ?_) fun _ _ h' => h')) fun _ _ h' => h')
    cases ok with
    | false => exact wpAny_pure ⟨rfl, h₃⟩
    | true => exact h₃
/-- the next clause's start, its loop known -/
theorem start_cl {i1 : Expr} {more : Sem Fin} {Q : Fin → Shared → Prop} {E : Value → Shared → Prop} (hs : ∀ x, foldedSetIterable i1 env x = pure x)
    (h : wpAny (model prog w) A (eval i1 env) (fun x s₄ => wpAny (model prog w) A (pyIter x) (fun it1 s₅ => codeAny (model prog w) A (.compStart e d it1 acc env) (fun r s' => match r with
      | .ok _ => wpAny (model prog w) A more Q E s'
      | .error _ => False) s₅) E s₄) E s) : wpAny (model prog w) A (startC e d i1 acc env more) Q E s := by
  unfold startC
  refine wpAny_bind (wpAny_mono h (fun x s₄ h₄ => ?_) fun _ _ h' => h')
  refine wpAny_bind (wpAny_standAt (wpAny_bind (wpAny_of_eq (hs x) (wpAny_bind (wpAny_holding (wpAny_mono h₄ (fun it1 s₅ h₅ => ?_) fun _ _ h' => h'))))))
  refine wpAny_bind (wpAny_runOwn ?_)
  rw [Around.mark_none]
  refine codeAny_mono h₅ fun r s' hr => ?_
  cases r with
  | ok f => exact hr
  | error e => exact hr.elim
theorem start_ok {g1 : Comprehension} (hg : (clausesOf e)[d]? = some g1) (ha : g1.is_async = 0) (hd : (model prog w).den (.compStart e d it acc env) = (compStart e d it acc env).onRaise (fun x => do noteFrame x env; standAt theWindowsPlace)) (hu : A.under (.compStart e d it acc env) = A) (hq : (Code.compLoop e d it acc env).quiet = true)
    (hqs : ∀ it', (Code.compLoop e d it' acc env).quiet = true)
    (h0 : codeAny (model prog w) A (.compLoop e d it acc env) R s)
    (h : wpAny (model prog w) A (pyIter it) (fun it' s' => codeAny (model prog w) A (.compLoop e d it' acc env) R s')
      (notedBy (model prog w) A env fun x s' => R (.error x) s') s) :
    codeAny (model prog w) A (.compStart e d it acc env) R s := by
  refine codeAny_of_tree ?_
  rw [hu, hd]
  refine wpAny_notedAt ?_
  unfold compStart
  rw [hg]
  simp only [Option.elim, ha]
  show wpAny _ _ (ask >>= _) _ _ s
  refine wpAny_bind (wpAny_askSetting (wpAny_ite ?_))
  split
  · first
      | exact wpAny_bind (wpAny_pure (wpAny_pure (And.intro hq h0)))
      | exact wpAny_pure (And.intro hq h0)
  · first
      | exact wpAny_bind (wpAny_rule (wpAny_bind (wpAny_standAt (wpAny_bind (wpAny_mono h (fun it' s' h' => wpAny_pure (And.intro (hqs it') h')) fun _ _ x => x)))))
      | (refine wpAny_bind (wpAny_rule ?_); show wpAny _ _ (standAt g1.iter.pos >>= _) _ _ s; exact wpAny_bind (wpAny_standAt (wpAny_bind (wpAny_mono h (fun it' s' h' => wpAny_pure (And.intro (hqs it') h')) fun _ _ x => x))))
end
/-! the clauses, one within another -/
/-- a clause: its source, its target, its tests, the names that it and those within it bind -/
structure ClS where
  wi : TI
  g : TG
  tt : TT
  vs : List Nat
def vsOf : List ClS → List Nat
  | [] => []
  | c :: _ => c.vs
def tBody (em : L2.St → Hp → (Hp → Prop) → Prop) : List ClS → L2.St → Hp → (Hp → Prop) → Prop
  | [], σ, H, Nx => em σ H Nx
  | c :: cs, σ, H, Nx => c.wi σ H fun J H1 => ∃ W : Nat → Nat → Hp → Prop, (∃ m, W 0 m H1) ∧ ∀ i m H, W i m H →
    (J.stop i H ∧ Nx H) ∨ (J.go i H ∧ ∃ Nx1 : Hp → Prop, (∀ H', Nx1 H' → ∃ m', m' < m ∧ W (i + 1) m' H') ∧ ∀ x H', J.yld i H x H' → c.g x (L2.wipe σ c.vs) H' fun σ2 H2 => L2.wipe σ2 c.vs = L2.wipe σ c.vs ∧ c.tt σ2 H2 fun b H3 =>
      if b = true then tBody em cs σ2 H3 Nx1 else Nx1 H3)
def Deep (Xb : Cx) (gens : List Comprehension) : Nat → List ClS → Prop
  | d, [] => gens[d]? = none
  | d, c :: cs => ∃ tg iter ifs, gens[d]? = some ⟨tg, iter, ifs, 0⟩ ∧ PI Xb tg iter c.wi ∧ PG Xb tg c.g ∧ PTs Xb ifs c.tt ∧ (∀ x, foldedSetIterable iter Xb.env x = pure x) ∧ (∀ v ∈ vsOf cs, v ∈ c.vs) ∧ Deep Xb gens (d + 1) cs
def EmOk (Xb : Cx) (emit : Sem Unit) (em : L2.St → Hp → (Hp → Prop) → Prop) : Prop := ∀ (pins : List (Addr × Obj)) (s : Shared) (σ : L2.St) (H : Hp) (Nx : Hp → Prop), Inv Xb pins σ H s → em σ H Nx → wpAny (model Xb.prog Xb.w) Xb.A emit (fun _ s' => ∃ H', Inv Xb pins σ H' s' ∧ Nx H') (fun _ _ => False) s
/-- what is asked of the comprehension's tree -/
structure CompT (prog : Program) (w : World) (A : Around) (e : Expr) (gens : List Comprehension) (acc : Value) (env : PySem.Env) (emit : Sem Unit) : Prop where
  cl : clausesOf e = gens
  mid : ∀ (d : Nat) (it : Value) (tg iter : Expr) (ifs : List Expr) (t1 i1 : Expr) (ifs1 : List Expr), gens[d]? = some ⟨tg, iter, ifs, 0⟩ → gens[d + 1]? = some ⟨t1, i1, ifs1, 0⟩ → compTurn e d it acc env = turnC tg iter ifs it env (startC e (d + 1) i1 acc env (again (.compLoop e d it acc env))) (again (.compLoop e d it acc env))
  last : ∀ (d : Nat) (it : Value) (tg iter : Expr) (ifs : List Expr), gens[d]? = some ⟨tg, iter, ifs, 0⟩ → gens[d + 1]? = none → compTurn e d it acc env = turnC tg iter ifs it env (emit >>= fun _ => again (.compLoop e d it acc env)) (again (.compLoop e d it acc env))
  hu : ∀ (d : Nat) (it : Value), A.under (.compLoop e d it acc env) = A
  hq : ∀ (d : Nat) (it : Value), (Code.compLoop e d it acc env).quiet = true
  hd : ∀ (d : Nat) (it : Value), (model prog w).den (.compLoop e d it acc env) = (compTurn e d it acc env).onRaise (fun x => do noteFrame x env; theTreesLotGoes x)
  su : ∀ (d : Nat) (it : Value), A.under (.compStart e d it acc env) = A
  sd : ∀ (d : Nat) (it : Value), (model prog w).den (.compStart e d it acc env) = (compStart e d it acc env).onRaise (fun x => do noteFrame x env; standAt theWindowsPlace)
theorem thnX {α : Type} {t : Sem α} {Q Q' : α → Shared → Prop} {M : Model} {A : Around} {E E' : Value → Shared → Prop} {s : Shared} (hE : E' = fun _ _ => False) (h : wpAny M A t Q E' s) (hQ : ∀ a s, Q a s → Q' a s) : wpAny M A t Q' E s := wpAny_mono h hQ fun _ _ z => by
  rw [hE] at z
  exact z.elim
theorem nest {Xb : Cx} {e : Expr} {gens : List Comprehension} {acc : Value} {emit : Sem Unit} {em : L2.St → Hp → (Hp → Prop) → Prop} (hxe : Xb.xe = fun _ _ => False) (hcalm : Xb.calm = true) (hem : EmOk Xb emit em) (C : CompT Xb.prog Xb.w Xb.A e gens acc Xb.env emit) :
    ∀ (cs : List ClS) (d : Nat) (tg iter : Expr) (ifs : List Expr) (g : TG) (tt : TT) (vs : List Nat), gens[d]? = some ⟨tg, iter, ifs, 0⟩ → PG Xb tg g → PTs Xb ifs tt → (∀ v ∈ vsOf cs, v ∈ vs) → Deep Xb gens (d + 1) cs →
    ∀ (pins : List (Addr × Obj)) (σ : L2.St) (s : Shared) (it : Addr) (fp : List Addr) (tn : Nat → Heap → Prop) (J : L2.It) (W : Nat → Nat → Hp → Prop) (m0 : Nat) (H : Hp) (Nx : Hp → Prop) (R : Result → Shared → Prop), Turn Xb.prog Xb.w Xb.K tg J fp it tn → Inv Xb pins (L2.wipe σ vs) H s → tn 0 s.heap →
      (∀ H' : Hp, (∀ b ∈ fp, H' b = none) → ∀ b ∈ fp, FpOk Xb pins H' b) → (∀ b ∈ fp, H b = none) → W 0 m0 H →
      (∀ i m H, W i m H → (J.stop i H ∧ Nx H) ∨ (J.go i H ∧ ∃ Nx1 : Hp → Prop, (∀ H', Nx1 H' → ∃ m', m' < m ∧ W (i + 1) m' H') ∧ ∀ x H', J.yld i H x H' → g x (L2.wipe σ vs) H' fun σ2 H2 => L2.wipe σ2 vs = L2.wipe σ vs ∧ tt σ2 H2 fun b H3 => if b = true then tBody em cs σ2 H3 Nx1 else Nx1 H3)) →
      (∀ H' s', Inv Xb pins (L2.wipe σ vs) H' s' → (∀ b ∈ fp, H' b = none) → Nx H' → R (.ok .next) s') → codeAny (model Xb.prog Xb.w) Xb.A (.compLoop e d (.ref it) acc Xb.env) R s
  | cs, d, tg, iter, ifs, g, tt, vs, hgen, pg, pt, hvs, hdeep, pins, σ, s, it, fp, tn, J, W, m0, H, Nx, R, T, I0, st0, stat, n0, w0, turn, hend => by
    obtain ⟨yes, ht, hyes⟩ : ∃ yes, compTurn e d (.ref it) acc Xb.env = turnC tg iter ifs (.ref it) Xb.env yes (again (.compLoop e d (.ref it) acc Xb.env)) ∧
        ∀ (pins : List (Addr × Obj)) (s9 : Shared) (σ8 : L2.St) (H9 : Hp) (Nx1 : Hp → Prop) (Q : Fin → Shared → Prop) (E : Value → Shared → Prop), Inv Xb pins σ8 H9 s9 → tBody em cs σ8 H9 Nx1 → (∀ s' H', Inv Xb pins (L2.wipe σ8 (vsOf cs)) H' s' → Nx1 H' → Q (.again (.compLoop e d (.ref it) acc Xb.env)) s') → wpAny (model Xb.prog Xb.w) Xb.A yes Q E s9 := by
      cases cs with
      | nil =>
        refine ⟨_, C.last d (.ref it) tg iter ifs hgen hdeep, fun pins s9 σ8 H9 Nx1 Q E I9 q9 hQ => wpAny_bind (thnF (hem pins s9 σ8 H9 Nx1 I9 q9) fun _ s10 ⟨H10, I10, nx⟩ => wpAny_pure (hQ s10 H10 I10 nx))⟩
      | cons c cs =>
        obtain ⟨t1, i1, ifs1, hg1, pi1, pg1, pt1, hf1, hv1, hdeep1⟩ := hdeep
        refine ⟨_, C.mid d (.ref it) tg iter ifs t1 i1 ifs1 hgen hg1, fun pins s9 σ8 H9 Nx1 Q E I9 q9 hQ => ?_⟩
        refine start_cl hf1 (thnX hxe (pi1.run pins s9 σ8 H9 _ I9 q9) fun xv s10 hx => thnX hxe hx fun itv s11 h11 => ?_)
        obtain ⟨it1, fp1, tn1, J1, H11, e1, I11, T1, st11, f11, W1, ⟨m1, w1⟩, turn1⟩ := h11
        subst e1
        have loop1 := nest hxe hcalm hem C cs (d + 1) t1 i1 ifs1 c.g c.tt c.vs hg1 pg1 pt1 hv1 hdeep1 pins σ8 s11 it1 fp1 tn1 J1 W1 m1 H11 Nx1 (fun r s' => match r with
          | .ok _ => wpAny (model Xb.prog Xb.w) Xb.A (again (.compLoop e d (.ref it) acc Xb.env)) Q E s'
          | .error _ => False) T1 (I11.weak (L2.wipe_length _ _) (fun j v e => (L2.wipe_some e).1)) st11 (fun H' hn b hb => ⟨hn b hb, (f11 b hb).2⟩) (fun b hb => (f11 b hb).1) w1 turn1 fun H' s' I' _ nx => wpAny_pure (hQ s' H' I' nx)
        exact start_ok (by rw [C.cl]; exact hg1) rfl (C.sd _ _) (C.su _ _) (C.hq _ _) (fun _ => C.hq _ _) loop1 (T1.self Xb.A 0 _ _ _ st11 loop1)
    refine loop_cl ht (C.hu _ _) (C.hq _ _) (C.hd _ _) (fun n s' => ∃ i H', Inv Xb pins (L2.wipe σ vs) H' s' ∧ tn i s'.heap ∧ (∀ b ∈ fp, H' b = none) ∧ W i n H') ?_ m0 ⟨0, H, I0, st0, n0, w0⟩
    rintro n s5 ⟨i, H5, I5, st5, n5, w5⟩
    rcases turn i n H5 w5 with ⟨stop, nx⟩ | ⟨go, Nx1, hNx1, step⟩
    · refine thnF (T.done Xb rfl rfl rfl hcalm i pins s5 _ H5 (fun _ _ => False) I5 (stat H5 n5) st5 stop) fun r s6 ⟨hr, I6⟩ => ?_
      subst hr
      exact hend H5 s6 I6 n5 nx
    · refine thnF (T.item Xb rfl rfl rfl hcalm i pins s5 _ H5 (fun _ _ => False) I5 (stat H5 n5) st5 go) fun r s6 ⟨u, hr, h6⟩ => ?_
      subst hr
      refine thnF h6 fun _ s7 ⟨x, H7, I7, r7, y7, st7, n7⟩ => ?_
      have I7' := I7.pinned (stat H7 n7) (T.obj _ _ st7)
      refine thnX hxe (pg.run _ s7 _ H7 x u _ I7' r7 (step x H7 y7)) fun _ s8 ⟨σ8, H8, I8, hw8, q8⟩ => ?_
      refine thnX hxe (pt.run _ s8 σ8 H8 _ I8 q8) fun b s9 ⟨H9, I9, q9⟩ => ?_
      have hl8 : (L2.wipe σ vs).length = σ8.length := by rw [← hw8, L2.wipe_length]
      have fin : ∀ {σ9 : L2.St} {s' : Shared} {H' : Hp}, Inv Xb (pins ++ pinsAt fp s7.heap) σ9 H' s' → (L2.wipe σ vs).length = σ9.length → (∀ (j : Nat) v, (L2.wipe σ vs)[j]? = some (some v) → σ9[j]? = some (some v)) → Nx1 H' →
          ∃ m, m < n ∧ ∃ i H', Inv Xb pins (L2.wipe σ vs) H' s' ∧ tn i s'.heap ∧ (∀ b ∈ fp, H' b = none) ∧ W i m H' := fun {σ9 s' H'} I' hl hk nx => by
        obtain ⟨m', hm, w'⟩ := hNx1 H' nx
        have pin' : ∀ b ∈ fp, ∀ o, s7.heap.get? b = some o → s'.heap.get? b = some o ∧ H' b = none := fun b hb o e =>
          let z := I'.pin (b, o) (List.mem_append_right _ (List.mem_append_right _ (mem_pinsAt hb e)))
          ⟨z.1, z.2.1⟩
        refine ⟨m', hm, i + 1, H', (I'.unpinned (pins := pins)).weak hl hk, T.keep _ _ _ st7 fun b hb o e => (pin' b hb o e).1, fun b hb => ?_, w'⟩
        obtain ⟨o, e, _⟩ := T.obj _ _ st7 b hb
        exact (pin' b hb o e).2
      have hk8 : ∀ (j : Nat) v, (L2.wipe σ vs)[j]? = some (some v) → σ8[j]? = some (some v) := fun j v e => by
        rw [← hw8] at e
        exact (L2.wipe_some e).1
      have hk9 : ∀ (j : Nat) v, (L2.wipe σ vs)[j]? = some (some v) → (L2.wipe σ8 (vsOf cs))[j]? = some (some v) := fun j v e => by
        rw [← hw8] at e
        obtain ⟨e1, e2⟩ := L2.wipe_some e
        rw [L2.wipe_out fun z => e2 (hvs j z)]
        exact e1
      cases b with
      | false =>
        simp only [Bool.false_eq_true, if_false] at q9 ⊢
        exact fin I9 hl8 hk8 q9
      | true =>
        simp only [if_true] at q9 ⊢
        exact hyes _ s9 σ8 H9 Nx1 _ _ I9 q9 fun s' H' I' nx => ⟨rfl, fin I' (hl8.trans (L2.wipe_length σ8 (vsOf cs)).symm) hk9 nx⟩
end PD
end

section
set_option Elab.async false
set_option linter.all false
set_option maxRecDepth 100000
set_option maxHeartbeats 4000000
/-! PD, part 15e: whole comprehensions of any number of clauses. -/
namespace PD
open PySem PySem.Spec PyProof.Rows L2
theorem compLN {prog : Program} {w : World} {A : Around} {elt : Expr} {gens : List Comprehension} {scope : Scope} {pos : Pos} {acc : Value} {env : PySem.Env} : CompT prog w A (.ListComp elt gens scope pos) gens acc env (emitL elt acc env) where
  cl := rfl
  mid := fun d it tg iter ifs t1 i1 ifs1 h0 h1 => turn_midL h0 h1
  last := fun d it tg iter ifs h0 h1 => turn_lastL h0 h1
  hu := fun _ _ => rfl
  hq := fun _ _ => rfl
  hd := fun _ _ => rfl
  su := fun _ _ => rfl
  sd := fun _ _ => rfl
theorem compDN {prog : Program} {w : World} {A : Around} {kx vx : Expr} {gens : List Comprehension} {scope : Scope} {pos : Pos} {D : Addr} {env : PySem.Env} : CompT prog w A (.DictComp kx vx gens scope pos) gens (.ref D) env (emitD kx vx D env) where
  cl := rfl
  mid := fun d it tg iter ifs t1 i1 ifs1 h0 h1 => turn_midD h0 h1
  last := fun d it tg iter ifs h0 h1 => turn_lastD h0 h1
  hu := fun _ _ => rfl
  hq := fun _ _ => rfl
  hd := fun _ _ => rfl
  su := fun _ _ => rfl
  sd := fun _ _ => rfl
def emLN (te : TE) (D : Addr) : L2.St → Hp → (Hp → Prop) → Prop := fun σ H Nx => te σ H fun y H4 => ∃ acc, H4 D = some (.lst acc) ∧ acc.length < sizeLine ∧ Nx (upd H4 D (.lst (acc ++ [y])))
def emDN (tk tv : TE) (D : Addr) : L2.St → Hp → (Hp → Prop) → Prop := fun σ H Nx => tk σ H fun y H4 => tv σ H4 fun z H5 => ∃ kvs k, y = kV k ∧ H5 D = some (.dK kvs) ∧ kvs.length < sizeLine ∧ Nx (upd H5 D (.dK (L2.putK kvs k z)))
theorem emLN_ok {Xb : Cx} {elt : Expr} {te : TE} {D : Addr} (hxe : Xb.xe = fun _ _ => False) (pe : PE Xb elt te) : EmOk Xb (emitL elt (.ref D) Xb.env) (emLN te D) := fun pins s σ H Nx I h => by
  unfold emitL
  refine wpAny_bind (thnX hxe (pe.run pins s σ H _ I h) fun z s17 ⟨yv, H17, I17, r17, acc, hD17, hz17, nx⟩ => wpAny_bind (app_ok I17 hD17 hz17 r17 fun s18 I18 => wpAny_pure ⟨_, I18, nx⟩))
theorem emDN_ok {Xb : Cx} {kx vx : Expr} {tk tv : TE} {D : Addr} (hxe : Xb.xe = fun _ _ => False) (pk : PE Xb kx tk) (pe : PE Xb vx tv) : EmOk Xb (emitD kx vx D Xb.env) (emDN tk tv D) := fun pins s σ H Nx I h => by
  unfold emitD
  refine wpAny_bind (thnX hxe (pk.run pins s σ H _ I h) fun z s10 ⟨yk, H10, I10, r10, q10⟩ => wpAny_bind (wpAny_holding (thnX hxe (pe.run pins s10 σ H10 _ I10 q10) fun z2 s11 ⟨yv, H11, I11, r11, kvs, k, ek, hD11, hz11, nx⟩ => ?_)))
  subst ek
  exact wpAny_bind (wpAny_standAt (wpAny_holding (d_dictSet I11 hD11 hz11 r10 r11 fun s12 I12 => ⟨_, I12, nx⟩)))
section
variable {X : Cx}

/-- [e for .. for ..]: D the new list -/
def tLN (wi : TI) (g : TG) (tt : TT) (cs : List ClS) (te : TE) (vs : List Nat) : TE := fun σ H Q => wi σ H fun J H1 => ∀ D, H1 D = none → ∃ W : Nat → Nat → Hp → Prop, (∃ m, W 0 m (upd H1 D (.lst []))) ∧ ∀ i m H, W i m H →
  (J.stop i H ∧ Q (.ref D) H) ∨ (J.go i H ∧ ∃ Nx : Hp → Prop, (∀ H', Nx H' → ∃ m', m' < m ∧ W (i + 1) m' H') ∧ ∀ x H', J.yld i H x H' → g x (L2.wipe σ vs) H' fun σ2 H2 => L2.wipe σ2 vs = L2.wipe σ vs ∧ tt σ2 H2 fun b H3 =>
    if b = true then tBody (emLN te D) cs σ2 H3 Nx else Nx H3)
theorem coreLN {pins : List (Addr × Obj)} {s : Shared} {σ : L2.St} {H : Hp} {Q : VK} {elt tg iter : Expr} {ifs : List Expr} {rest : List Comprehension} {scope : Scope} {own : List (Str × Nat)} {pos pos' : Pos} {wi : TI} {g : TG} {tt : TT} {cs : List ClS} {te : TE} {use : Option (Value → Sem Unit)} {Qf : Value → Shared → Prop}
    (hc : X.calm = true) (hN : X.N.Nodup) (I : Inv X pins σ H s) (hi : PI X tg iter wi) (ok : BlkOk X.N X.env.scope scope own) (hv : ∀ i ∈ vsOf cs, i ∈ own.map (·.2))
    (hg : ∀ (s : Shared) (H : Hp) (C : Addr) (cl : List (Str × Addr)) (fp : List Addr), PG (X.blk s H scope (compEnvC scope cl C X.env) fp) tg g) (ht : ∀ (s : Shared) (H : Hp) (C : Addr) (cl : List (Str × Addr)) (fp : List Addr), PTs (X.blk s H scope (compEnvC scope cl C X.env) fp) ifs tt)
    (hdp : ∀ (s : Shared) (H : Hp) (C : Addr) (cl : List (Str × Addr)) (fp : List Addr), Deep (X.blk s H scope (compEnvC scope cl C X.env) fp) (⟨tg, iter, ifs, 0⟩ :: rest) 1 cs)
    (he : ∀ (s : Shared) (H : Hp) (C : Addr) (cl : List (Str × Addr)) (fp : List Addr), PE (X.blk s H scope (compEnvC scope cl C X.env) fp) elt te) (hs : ∀ x, foldedSetIterable iter X.env x = pure x)
    (h : tLN wi g tt cs te (own.map (·.2)) σ H Q)
    (hRR : ∀ D C s' m H', Inv X pins σ H' s' → Q (.ref D) H' → s'.heap.Ns C m → FpOk X pins H' C → compPost (model X.prog X.w) X.A X.xe use Qf (.ref D) C (.ok .next) s') :
    wpAny (model X.prog X.w) X.A (comprehension (.ListComp elt (⟨tg, iter, ifs, 0⟩ :: rest) scope pos) scope X.env pos' (newList []) false (eval iter X.env) use) Qf X.xe s := by
  have hfree : ∀ y ∈ scope.names, y.2 = .free → ∃ c, X.env.cells.lookup y.1 = some c := fun y hy e => by
    rcases ok.free y hy e with k | k
    · exact I.ok.has _ (.inl k)
    · exact I.ok.has _ (.inr k)
  refine wpAny_comprehension_free (use := use) rfl hs (closure_ok hfree) ok.kind (fun y hy e => by rw [ok.uniq y hy, e])
    (thn (hi.run pins s σ H _ I h) fun xv s1 hx => thn hx fun itv s2 h2 => ?_)
  obtain ⟨it, fp, tn, J, H2, e, I2, T, st2, f2, q⟩ := h2
  subst e
  refine wpAny_newObj_type (newEnv_comp ?_) (by show 0 ≤ sizeLine; decide)
  generalize hD : s2.heap.objs.size = D
  have hDn : H2 D = none := I2.hok.fresh (Nat.le_of_eq hD)
  obtain ⟨W, ⟨m0, w0⟩, turn⟩ := q D hDn
  generalize hs3 : ({ s2 with heap := s2.heap.push { cls := .type "list", data := .seq ([] : List Value).toArray } } : Shared) = s3
  have I3 : Inv X pins σ (upd H2 D (.lst [])) s3 := by
    rw [← hs3]
    refine I2.laid (t' := s2.toks) (fun b o e => Heap.get?_push_of_some _ e) (Nat.le_of_eq hD) ?_
    rw [← hD]
    exact ⟨Nat.zero_le _, [], 0, .nil, Heap.get?_push_size _ rfl⟩
  have h3 : s3.heap = s2.heap.push { cls := .type "list", data := .seq ([] : List Value).toArray } := by rw [← hs3]
  have sz : ∀ b ∈ fp, b < s2.heap.objs.size := fun b hb => by
    obtain ⟨o, e, _⟩ := T.obj _ _ st2 b hb
    exact Heap.lt_size e
  have f3 : ∀ b ∈ fp, FpOk X pins (upd H2 D (.lst [])) b ∧ b < s3.heap.objs.size := fun b hb => by
    have hlt := sz b hb
    refine ⟨⟨?_, (f2 b hb).2⟩, by rw [h3, Heap.size_push]; exact Nat.lt_succ_of_lt hlt⟩
    rw [upd_ne (by rw [← hD]; exact Nat.ne_of_lt hlt)]
    exact (f2 b hb).1
  have st3 : tn 0 s3.heap := T.keep _ _ _ st2 fun b _ o e => by rw [h3]; exact Heap.get?_push_of_some _ e
  have I4 := block_start I3 ok hN f3
  have pg := hg s3 (upd H2 D (.lst [])) s3.heap.objs.size (cellsFrom (s3.heap.objs.size + 1) scope.names (cloFrom X.env.cells scope.names [])) fp
  have pt := ht s3 (upd H2 D (.lst [])) s3.heap.objs.size (cellsFrom (s3.heap.objs.size + 1) scope.names (cloFrom X.env.cells scope.names [])) fp
  have pd := hdp s3 (upd H2 D (.lst [])) s3.heap.objs.size (cellsFrom (s3.heap.objs.size + 1) scope.names (cloFrom X.env.cells scope.names [])) fp
  have pe := he s3 (upd H2 D (.lst [])) s3.heap.objs.size (cellsFrom (s3.heap.objs.size + 1) scope.names (cloFrom X.env.cells scope.names [])) fp
  show codeAny _ _ (.compStart (.ListComp elt (⟨tg, iter, ifs, 0⟩ :: rest) scope pos) 0 (.ref it) (.ref D) (compEnvC scope (cellsFrom (s3.heap.objs.size + 1) scope.names (cloFrom X.env.cells scope.names [])) s3.heap.objs.size X.env)) (compPost (model X.prog X.w) X.A X.xe use Qf (.ref D) s3.heap.objs.size) { s3 with heap := pushCells (s3.heap.push { cls := .type "dict", data := .dict #[] }) scope.names }
  have nfp : ∀ b ∈ fp, (upd H2 D (.lst [])) b = none := fun b hb => (f3 b hb).1.1
  generalize hce : compEnvC scope (cellsFrom (s3.heap.objs.size + 1) scope.names (cloFrom X.env.cells scope.names [])) s3.heap.objs.size X.env = ce at I4 pg pt pd pe ⊢
  have cL : ce.locals = s3.heap.objs.size := by subst hce; rfl
  generalize hH3 : upd H2 D (.lst []) = H3 at I3 I4 pg pt pd pe w0 nfp f3
  generalize hs4 : ({ s3 with heap := pushCells (s3.heap.push { cls := .type "dict", data := .dict #[] }) scope.names } : Shared) = s4 at I4 ⊢
  have st4 : tn 0 s4.heap := T.keep _ _ _ st3 fun b _ o e => by rw [← hs4]; exact pushCells_keeps _ _ _ _ (Heap.get?_push_of_some _ e)
  have stat : ∀ H' : Hp, (∀ b ∈ fp, H' b = none) → ∀ b ∈ fp, FpOk (X.blk s3 H3 scope ce fp) [] H' b := fun H' hn b hb =>
    ⟨hn b hb, (I4.ok.exf b hb).1, I4.ok.exfs b hb, .inl hb, fun x c e => (I4.ok.exf b hb).2 x c e, fun p hp => absurd (show p ∈ ([] : List (Addr × Obj)) ++ [] from hp) (by simp)⟩
  have loop : codeAny (model X.prog X.w) X.A (.compLoop (.ListComp elt (⟨tg, iter, ifs, 0⟩ :: rest) scope pos) 0 (.ref it) (.ref D) ce) (compPost (model X.prog X.w) X.A X.xe use Qf (.ref D) s3.heap.objs.size) s4 := by
    refine nest (Xb := X.blk s3 H3 scope ce fp) (em := emLN te D) rfl hc (emLN_ok rfl pe) (compLN ..) cs 0 tg iter ifs g tt (own.map (·.2)) rfl pg pt hv pd [] σ s4 it fp tn J W m0 H3 (Q (.ref D)) _ T I4 st4 stat nfp w0 turn fun H5 s6 I6 n6 qq => ?_
    have I7 : Inv X pins σ H5 s6 := I3.call' (ch := fp) I6.os I6.base I6.hok I6.bare fun b hb => ⟨(f3 b hb).1.2.2.2.1, (f3 b hb).1.2.1, (f3 b hb).1.2.2.2.2.1, (f3 b hb).1.2.2.2.2.2⟩
    have nC : H5 s3.heap.objs.size = none := by
      have z : H5 ce.locals = none := I6.free
      rw [cL] at z
      exact z
    obtain ⟨m, hn, _⟩ := I6.loc
    have hn : s6.heap.Ns ce.locals m := hn
    rw [cL] at hn
    exact hRR D s3.heap.objs.size s6 m H5 I7 qq hn (I3.fpOk (Nat.le_refl _) nC)
  exact codeAny_compStart_list loop (T.self X.A 0 _ _ _ st4 loop)

theorem pe_LN {elt tg iter : Expr} {ifs : List Expr} {rest : List Comprehension} {scope : Scope} {own : List (Str × Nat)} {pos : Pos} {wi : TI} {g : TG} {tt : TT} {cs : List ClS} {te : TE} (hc : X.calm = true) (hN : X.N.Nodup) (hi : PI X tg iter wi) (ok : BlkOk X.N X.env.scope scope own) (hv : ∀ i ∈ vsOf cs, i ∈ own.map (·.2))
    (hg : ∀ (s : Shared) (H : Hp) (C : Addr) (cl : List (Str × Addr)) (fp : List Addr), PG (X.blk s H scope (compEnvC scope cl C X.env) fp) tg g) (ht : ∀ (s : Shared) (H : Hp) (C : Addr) (cl : List (Str × Addr)) (fp : List Addr), PTs (X.blk s H scope (compEnvC scope cl C X.env) fp) ifs tt)
    (hdp : ∀ (s : Shared) (H : Hp) (C : Addr) (cl : List (Str × Addr)) (fp : List Addr), Deep (X.blk s H scope (compEnvC scope cl C X.env) fp) (⟨tg, iter, ifs, 0⟩ :: rest) 1 cs)
    (he : ∀ (s : Shared) (H : Hp) (C : Addr) (cl : List (Str × Addr)) (fp : List Addr), PE (X.blk s H scope (compEnvC scope cl C X.env) fp) elt te) (hs : ∀ x, foldedSetIterable iter X.env x = pure x) : PE X (.ListComp elt (⟨tg, iter, ifs, 0⟩ :: rest) scope pos) (tLN wi g tt cs te (own.map (·.2))) := by
  refine ⟨fun pins s σ H Q I h => ?_⟩
  rw [eval_ListComp]
  refine coreLN hc hN I hi ok hv hg ht hdp he hs h fun D C s' m H' I' q hn f => ⟨m, hn, fun h'' sb => ?_⟩
  obtain ⟨f0, f1, f2, f3, f4, f5⟩ := f
  exact ⟨.ref D, H', I'.turned (t' := s'.toks) (fun b o hb e => (sb.2 b hb).trans e) f0 f1 f3 f4 f5, rfl, q⟩
theorem ps_setLN {i : Nat} {y : Str} {py : Pos} {elt tg iter : Expr} {ifs : List Expr} {rest : List Comprehension} {scope : Scope} {own : List (Str × Nat)} {pos spos : Pos} {wi : TI} {g : TG} {tt : TT} {cs : List ClS} {te : TE} (hc : X.calm = true) (hN : X.N.Nodup) (hy : X.N[i]? = some y) (hyl : X.env.scope.names.lookup y = some .local)
    (hsw : swapsWith (.ListComp elt (⟨tg, iter, ifs, 0⟩ :: rest) scope pos) (some (.Name y py)) spos.line X.env = pure true) (hi : PI X tg iter wi) (ok : BlkOk X.N X.env.scope scope own) (hv : ∀ i ∈ vsOf cs, i ∈ own.map (·.2))
    (hg : ∀ (s : Shared) (H : Hp) (C : Addr) (cl : List (Str × Addr)) (fp : List Addr), PG (X.blk s H scope (compEnvC scope cl C X.env) fp) tg g) (ht : ∀ (s : Shared) (H : Hp) (C : Addr) (cl : List (Str × Addr)) (fp : List Addr), PTs (X.blk s H scope (compEnvC scope cl C X.env) fp) ifs tt)
    (hdp : ∀ (s : Shared) (H : Hp) (C : Addr) (cl : List (Str × Addr)) (fp : List Addr), Deep (X.blk s H scope (compEnvC scope cl C X.env) fp) (⟨tg, iter, ifs, 0⟩ :: rest) 1 cs)
    (he : ∀ (s : Shared) (H : Hp) (C : Addr) (cl : List (Str × Addr)) (fp : List Addr), PE (X.blk s H scope (compEnvC scope cl C X.env) fp) elt te) (hs : ∀ x, foldedSetIterable iter X.env x = pure x) : PS X (.Assign [.Name y py] (.ListComp elt (⟨tg, iter, ifs, 0⟩ :: rest) scope pos) spos) (tAsg (tLN wi g tt cs te (own.map (·.2))) (gName i)) := by
  refine ⟨fun pins s σ H D I h => ?_⟩
  rw [exec_Assign_Name_used _ _ _ _ hsw]
  refine wpAny_bind (wpAny_standAt (wpAny_bind ?_))
  show wpAny _ X.A (do let _ ← comprehension (.ListComp elt (⟨tg, iter, ifs, 0⟩ :: rest) scope pos) scope X.env (firstIterPos (⟨tg, iter, ifs, 0⟩ :: rest) pos) (newList []) false (eval iter X.env) (some (assign (.Name y py) X.env))) _ _ s
  have h : tLN wi g tt cs te (own.map (·.2)) σ H (fun x H1 => gName i x σ H1 D.nx) := h
  refine wpAny_bind (thn (coreLN (Qf := fun _ s' => SP X pins D .next s') hc hN I hi ok hv hg ht hdp he hs h fun L C s' m H' I' q hn f => ?_) fun _ s' hq => wpAny_pure (wpAny_pure hq))
  show wpAny _ _ (assign (.Name y py) X.env (.ref L)) _ _ _
  refine wpAny_assign_Name (store_ok2 (v := V.ref L) I' hN hy (.inl hyl) rfl (fun s2 I2 ⟨a, sb, ha⟩ => ?_) (.inr hyl))
  obtain ⟨f0, f1, f2, f3, f4, f5⟩ := f
  have haC : C ≠ a := by
    rcases ha with z | z
    · rw [z]; exact f1
    · exact fun e => f4 y a z e.symm
  refine ⟨m, hn.sameBut sb haC, fun h3 sb3 => ?_⟩
  exact ⟨_, H', I2.turned (t' := s2.toks) (fun b o hb e => (sb3.2 b hb).trans e) f0 f1 f3 f4 f5, q⟩

/-- {k: v for .. for ..}: D the new dict -/
def tDN (wi : TI) (g : TG) (tt : TT) (cs : List ClS) (tk tv : TE) (vs : List Nat) : TE := fun σ H Q => wi σ H fun J H1 => ∀ D, H1 D = none → ∃ W : Nat → Nat → Hp → Prop, (∃ m, W 0 m (upd H1 D (.dK []))) ∧ ∀ i m H, W i m H →
  (J.stop i H ∧ Q (.ref D) H) ∨ (J.go i H ∧ ∃ Nx : Hp → Prop, (∀ H', Nx H' → ∃ m', m' < m ∧ W (i + 1) m' H') ∧ ∀ x H', J.yld i H x H' → g x (L2.wipe σ vs) H' fun σ2 H2 => L2.wipe σ2 vs = L2.wipe σ vs ∧ tt σ2 H2 fun b H3 =>
    if b = true then tBody (emDN tk tv D) cs σ2 H3 Nx else Nx H3)
theorem coreDN {pins : List (Addr × Obj)} {s : Shared} {σ : L2.St} {H : Hp} {Q : VK} {kx vx tg iter : Expr} {ifs : List Expr} {rest : List Comprehension} {scope : Scope} {own : List (Str × Nat)} {pos pos' : Pos} {wi : TI} {g : TG} {tt : TT} {cs : List ClS} {tk tv : TE} {use : Option (Value → Sem Unit)} {Qf : Value → Shared → Prop}
    (hc : X.calm = true) (hN : X.N.Nodup) (I : Inv X pins σ H s) (hi : PI X tg iter wi) (ok : BlkOk X.N X.env.scope scope own) (hv : ∀ i ∈ vsOf cs, i ∈ own.map (·.2))
    (hg : ∀ (s : Shared) (H : Hp) (C : Addr) (cl : List (Str × Addr)) (fp : List Addr), PG (X.blk s H scope (compEnvC scope cl C X.env) fp) tg g) (ht : ∀ (s : Shared) (H : Hp) (C : Addr) (cl : List (Str × Addr)) (fp : List Addr), PTs (X.blk s H scope (compEnvC scope cl C X.env) fp) ifs tt)
    (hdp : ∀ (s : Shared) (H : Hp) (C : Addr) (cl : List (Str × Addr)) (fp : List Addr), Deep (X.blk s H scope (compEnvC scope cl C X.env) fp) (⟨tg, iter, ifs, 0⟩ :: rest) 1 cs)
    (hk : ∀ (s : Shared) (H : Hp) (C : Addr) (cl : List (Str × Addr)) (fp : List Addr), PE (X.blk s H scope (compEnvC scope cl C X.env) fp) kx tk) (he : ∀ (s : Shared) (H : Hp) (C : Addr) (cl : List (Str × Addr)) (fp : List Addr), PE (X.blk s H scope (compEnvC scope cl C X.env) fp) vx tv) (hs : ∀ x, foldedSetIterable iter X.env x = pure x)
    (h : tDN wi g tt cs tk tv (own.map (·.2)) σ H Q)
    (hRR : ∀ D C s' m H', Inv X pins σ H' s' → Q (.ref D) H' → s'.heap.Ns C m → FpOk X pins H' C → compPost (model X.prog X.w) X.A X.xe use Qf (.ref D) C (.ok .next) s') :
    wpAny (model X.prog X.w) X.A (comprehension (.DictComp kx vx (⟨tg, iter, ifs, 0⟩ :: rest) scope pos) scope X.env pos' (newDict) false (eval iter X.env) use) Qf X.xe s := by
  have hfree : ∀ y ∈ scope.names, y.2 = .free → ∃ c, X.env.cells.lookup y.1 = some c := fun y hy e => by
    rcases ok.free y hy e with k | k
    · exact I.ok.has _ (.inl k)
    · exact I.ok.has _ (.inr k)
  refine wpAny_comprehension_free (use := use) rfl hs (closure_ok hfree) ok.kind (fun y hy e => by rw [ok.uniq y hy, e])
    (thn (hi.run pins s σ H _ I h) fun xv s1 hx => thn hx fun itv s2 h2 => ?_)
  obtain ⟨it, fp, tn, J, H2, e, I2, T, st2, f2, q⟩ := h2
  subst e
  refine wpAny_newObj_type (newEnv_comp ?_)
  generalize hD : s2.heap.objs.size = D
  have hDn : H2 D = none := I2.hok.fresh (Nat.le_of_eq hD)
  obtain ⟨W, ⟨m0, w0⟩, turn⟩ := q D hDn
  generalize hs3 : ({ s2 with heap := s2.heap.push { cls := .type "dict", data := .dict #[] } } : Shared) = s3
  have I3 : Inv X pins σ (upd H2 D (.dK [])) s3 := by
    rw [← hs3]
    refine I2.laid (t' := s2.toks) (fun b o e => Heap.get?_push_of_some _ e) (Nat.le_of_eq hD) ?_
    rw [← hD]
    exact dk_empty s2.heap I2.big
  have h3 : s3.heap = s2.heap.push { cls := .type "dict", data := .dict #[] } := by rw [← hs3]
  have sz : ∀ b ∈ fp, b < s2.heap.objs.size := fun b hb => by
    obtain ⟨o, e, _⟩ := T.obj _ _ st2 b hb
    exact Heap.lt_size e
  have f3 : ∀ b ∈ fp, FpOk X pins (upd H2 D (.dK [])) b ∧ b < s3.heap.objs.size := fun b hb => by
    have hlt := sz b hb
    refine ⟨⟨?_, (f2 b hb).2⟩, by rw [h3, Heap.size_push]; exact Nat.lt_succ_of_lt hlt⟩
    rw [upd_ne (by rw [← hD]; exact Nat.ne_of_lt hlt)]
    exact (f2 b hb).1
  have st3 : tn 0 s3.heap := T.keep _ _ _ st2 fun b _ o e => by rw [h3]; exact Heap.get?_push_of_some _ e
  have I4 := block_start I3 ok hN f3
  have pg := hg s3 (upd H2 D (.dK [])) s3.heap.objs.size (cellsFrom (s3.heap.objs.size + 1) scope.names (cloFrom X.env.cells scope.names [])) fp
  have pt := ht s3 (upd H2 D (.dK [])) s3.heap.objs.size (cellsFrom (s3.heap.objs.size + 1) scope.names (cloFrom X.env.cells scope.names [])) fp
  have pd := hdp s3 (upd H2 D (.dK [])) s3.heap.objs.size (cellsFrom (s3.heap.objs.size + 1) scope.names (cloFrom X.env.cells scope.names [])) fp
  have pk := hk s3 (upd H2 D (.dK [])) s3.heap.objs.size (cellsFrom (s3.heap.objs.size + 1) scope.names (cloFrom X.env.cells scope.names [])) fp
  have pe := he s3 (upd H2 D (.dK [])) s3.heap.objs.size (cellsFrom (s3.heap.objs.size + 1) scope.names (cloFrom X.env.cells scope.names [])) fp
  show codeAny _ _ (.compStart (.DictComp kx vx (⟨tg, iter, ifs, 0⟩ :: rest) scope pos) 0 (.ref it) (.ref D) (compEnvC scope (cellsFrom (s3.heap.objs.size + 1) scope.names (cloFrom X.env.cells scope.names [])) s3.heap.objs.size X.env)) (compPost (model X.prog X.w) X.A X.xe use Qf (.ref D) s3.heap.objs.size) { s3 with heap := pushCells (s3.heap.push { cls := .type "dict", data := .dict #[] }) scope.names }
  have nfp : ∀ b ∈ fp, (upd H2 D (.dK [])) b = none := fun b hb => (f3 b hb).1.1
  generalize hce : compEnvC scope (cellsFrom (s3.heap.objs.size + 1) scope.names (cloFrom X.env.cells scope.names [])) s3.heap.objs.size X.env = ce at I4 pg pt pd pk pe ⊢
  have cL : ce.locals = s3.heap.objs.size := by subst hce; rfl
  generalize hH3 : upd H2 D (.dK []) = H3 at I3 I4 pg pt pd pk pe w0 nfp f3
  generalize hs4 : ({ s3 with heap := pushCells (s3.heap.push { cls := .type "dict", data := .dict #[] }) scope.names } : Shared) = s4 at I4 ⊢
  have st4 : tn 0 s4.heap := T.keep _ _ _ st3 fun b _ o e => by rw [← hs4]; exact pushCells_keeps _ _ _ _ (Heap.get?_push_of_some _ e)
  have stat : ∀ H' : Hp, (∀ b ∈ fp, H' b = none) → ∀ b ∈ fp, FpOk (X.blk s3 H3 scope ce fp) [] H' b := fun H' hn b hb =>
    ⟨hn b hb, (I4.ok.exf b hb).1, I4.ok.exfs b hb, .inl hb, fun x c e => (I4.ok.exf b hb).2 x c e, fun p hp => absurd (show p ∈ ([] : List (Addr × Obj)) ++ [] from hp) (by simp)⟩
  have loop : codeAny (model X.prog X.w) X.A (.compLoop (.DictComp kx vx (⟨tg, iter, ifs, 0⟩ :: rest) scope pos) 0 (.ref it) (.ref D) ce) (compPost (model X.prog X.w) X.A X.xe use Qf (.ref D) s3.heap.objs.size) s4 := by
    refine nest (Xb := X.blk s3 H3 scope ce fp) (em := emDN tk tv D) rfl hc (emDN_ok rfl pk pe) (compDN ..) cs 0 tg iter ifs g tt (own.map (·.2)) rfl pg pt hv pd [] σ s4 it fp tn J W m0 H3 (Q (.ref D)) _ T I4 st4 stat nfp w0 turn fun H5 s6 I6 n6 qq => ?_
    have I7 : Inv X pins σ H5 s6 := I3.call' (ch := fp) I6.os I6.base I6.hok I6.bare fun b hb => ⟨(f3 b hb).1.2.2.2.1, (f3 b hb).1.2.1, (f3 b hb).1.2.2.2.2.1, (f3 b hb).1.2.2.2.2.2⟩
    have nC : H5 s3.heap.objs.size = none := by
      have z : H5 ce.locals = none := I6.free
      rw [cL] at z
      exact z
    obtain ⟨m, hn, _⟩ := I6.loc
    have hn : s6.heap.Ns ce.locals m := hn
    rw [cL] at hn
    exact hRR D s3.heap.objs.size s6 m H5 I7 qq hn (I3.fpOk (Nat.le_refl _) nC)
  exact codeAny_compStart_dict loop (T.self X.A 0 _ _ _ st4 loop)

theorem pe_DN {kx vx tg iter : Expr} {ifs : List Expr} {rest : List Comprehension} {scope : Scope} {own : List (Str × Nat)} {pos : Pos} {wi : TI} {g : TG} {tt : TT} {cs : List ClS} {tk tv : TE} (hc : X.calm = true) (hN : X.N.Nodup) (hi : PI X tg iter wi) (ok : BlkOk X.N X.env.scope scope own) (hv : ∀ i ∈ vsOf cs, i ∈ own.map (·.2))
    (hg : ∀ (s : Shared) (H : Hp) (C : Addr) (cl : List (Str × Addr)) (fp : List Addr), PG (X.blk s H scope (compEnvC scope cl C X.env) fp) tg g) (ht : ∀ (s : Shared) (H : Hp) (C : Addr) (cl : List (Str × Addr)) (fp : List Addr), PTs (X.blk s H scope (compEnvC scope cl C X.env) fp) ifs tt)
    (hdp : ∀ (s : Shared) (H : Hp) (C : Addr) (cl : List (Str × Addr)) (fp : List Addr), Deep (X.blk s H scope (compEnvC scope cl C X.env) fp) (⟨tg, iter, ifs, 0⟩ :: rest) 1 cs)
    (hk : ∀ (s : Shared) (H : Hp) (C : Addr) (cl : List (Str × Addr)) (fp : List Addr), PE (X.blk s H scope (compEnvC scope cl C X.env) fp) kx tk) (he : ∀ (s : Shared) (H : Hp) (C : Addr) (cl : List (Str × Addr)) (fp : List Addr), PE (X.blk s H scope (compEnvC scope cl C X.env) fp) vx tv) (hs : ∀ x, foldedSetIterable iter X.env x = pure x) : PE X (.DictComp kx vx (⟨tg, iter, ifs, 0⟩ :: rest) scope pos) (tDN wi g tt cs tk tv (own.map (·.2))) := by
  refine ⟨fun pins s σ H Q I h => ?_⟩
  rw [arm_eval_DictComp]
  refine coreDN hc hN I hi ok hv hg ht hdp hk he hs h fun D C s' m H' I' q hn f => ⟨m, hn, fun h'' sb => ?_⟩
  obtain ⟨f0, f1, f2, f3, f4, f5⟩ := f
  exact ⟨.ref D, H', I'.turned (t' := s'.toks) (fun b o hb e => (sb.2 b hb).trans e) f0 f1 f3 f4 f5, rfl, q⟩
theorem ps_setDN {i : Nat} {y : Str} {py : Pos} {kx vx tg iter : Expr} {ifs : List Expr} {rest : List Comprehension} {scope : Scope} {own : List (Str × Nat)} {pos spos : Pos} {wi : TI} {g : TG} {tt : TT} {cs : List ClS} {tk tv : TE} (hc : X.calm = true) (hN : X.N.Nodup) (hy : X.N[i]? = some y) (hyl : X.env.scope.names.lookup y = some .local)
    (hsw : swapsWith (.DictComp kx vx (⟨tg, iter, ifs, 0⟩ :: rest) scope pos) (some (.Name y py)) spos.line X.env = pure true) (hi : PI X tg iter wi) (ok : BlkOk X.N X.env.scope scope own) (hv : ∀ i ∈ vsOf cs, i ∈ own.map (·.2))
    (hg : ∀ (s : Shared) (H : Hp) (C : Addr) (cl : List (Str × Addr)) (fp : List Addr), PG (X.blk s H scope (compEnvC scope cl C X.env) fp) tg g) (ht : ∀ (s : Shared) (H : Hp) (C : Addr) (cl : List (Str × Addr)) (fp : List Addr), PTs (X.blk s H scope (compEnvC scope cl C X.env) fp) ifs tt)
    (hdp : ∀ (s : Shared) (H : Hp) (C : Addr) (cl : List (Str × Addr)) (fp : List Addr), Deep (X.blk s H scope (compEnvC scope cl C X.env) fp) (⟨tg, iter, ifs, 0⟩ :: rest) 1 cs)
    (hk : ∀ (s : Shared) (H : Hp) (C : Addr) (cl : List (Str × Addr)) (fp : List Addr), PE (X.blk s H scope (compEnvC scope cl C X.env) fp) kx tk) (he : ∀ (s : Shared) (H : Hp) (C : Addr) (cl : List (Str × Addr)) (fp : List Addr), PE (X.blk s H scope (compEnvC scope cl C X.env) fp) vx tv) (hs : ∀ x, foldedSetIterable iter X.env x = pure x) : PS X (.Assign [.Name y py] (.DictComp kx vx (⟨tg, iter, ifs, 0⟩ :: rest) scope pos) spos) (tAsg (tDN wi g tt cs tk tv (own.map (·.2))) (gName i)) := by
  refine ⟨fun pins s σ H D I h => ?_⟩
  rw [exec_Assign_Name_used _ _ _ _ hsw]
  refine wpAny_bind (wpAny_standAt (wpAny_bind ?_))
  show wpAny _ X.A (do let _ ← comprehension (.DictComp kx vx (⟨tg, iter, ifs, 0⟩ :: rest) scope pos) scope X.env (firstIterPos (⟨tg, iter, ifs, 0⟩ :: rest) pos) (newDict) false (eval iter X.env) (some (assign (.Name y py) X.env))) _ _ s
  have h : tDN wi g tt cs tk tv (own.map (·.2)) σ H (fun x H1 => gName i x σ H1 D.nx) := h
  refine wpAny_bind (thn (coreDN (Qf := fun _ s' => SP X pins D .next s') hc hN I hi ok hv hg ht hdp hk he hs h fun L C s' m H' I' q hn f => ?_) fun _ s' hq => wpAny_pure (wpAny_pure hq))
  show wpAny _ _ (assign (.Name y py) X.env (.ref L)) _ _ _
  refine wpAny_assign_Name (store_ok2 (v := V.ref L) I' hN hy (.inl hyl) rfl (fun s2 I2 ⟨a, sb, ha⟩ => ?_) (.inr hyl))
  obtain ⟨f0, f1, f2, f3, f4, f5⟩ := f
  have haC : C ≠ a := by
    rcases ha with z | z
    · rw [z]; exact f1
    · exact fun e => f4 y a z e.symm
  refine ⟨m, hn.sameBut sb haC, fun h3 sb3 => ?_⟩
  exact ⟨_, H', I2.turned (t' := s2.toks) (fun b o hb e => (sb3.2 b hb).trans e) f0 f1 f3 f4 f5, q⟩
end
end PD
end

section
set_option Elab.async false
set_option linter.all false
set_option maxRecDepth 100000
set_option maxHeartbeats 4000000
/-! PD, part 15f: comprehensions of any number of clauses against the small language. -/
namespace PD
open PySem PySem.Spec PyProof.Rows L2
section
variable {G : Sg} {S : Sx} {T : Tab} {X : Cx} {L : Lo} {W : WX} {ex : ExI} {A₀ : Addr → Prop} {H₀ : Hp}
def CellO (o : HO) : Prop := (∃ xs, o = .lst xs) ∨ ∃ kvs, o = .dK kvs
theorem CellO.mut {o : HO} (h : CellO o) : Mut (some o) := by
  rcases h with ⟨xs, rfl⟩ | ⟨kvs, rfl⟩ <;> exact trivial
theorem CellO.nx {o : HO} (h : CellO o) (fs : List (Str × V)) : some o ≠ some (.xd fs) := fun z => by
  rcases h with ⟨xs, rfl⟩ | ⟨kvs, rfl⟩ <;> cases z
/-- what a block's stores leave as it is: more objects; another list, dict at D -/
structure Stab (D : Addr) (K : Hp → Prop) : Prop where
  same : ∀ {H H' : Hp}, K H → Same H H' → K H'
  put : ∀ {H : Hp} {o o' : HO}, K H → H D = some o → CellO o → K (upd H D o')
/-- what stands at D -/
structure AccQ (D : Addr) (P : Hp → List PD.D → Prop) : Prop where
  same : ∀ {H H' : Hp} {ys : List PD.D}, P H ys → Same H H' → P H' ys
  cell : ∀ {H : Hp} {ys : List PD.D}, P H ys → ∃ o, H D = some o ∧ CellO o
def nsC : Cla → List Nat → Prop
  | .nil, _ => True
  | .cons own g it ifs r, vs => (∀ j ∈ own, j ∈ vs) ∧ (∀ j ∈ g.ns, j ∈ own) ∧ nsC r own
def specs (G : Sg) (T : Tab) (ex : ExI) (A₀ : Addr → Prop) (H₀ : Hp) : Cla → List ClS
  | .nil => []
  | .cons own g it ifs r => ⟨tI G T noW ex A₀ H₀ it, tG G ex A₀ H₀ g, tAll G T noW ex A₀ H₀ ifs, own⟩ :: specs G T ex A₀ H₀ r
def turnN (T : Tab) (g : Tg) (ifs : Exs) (cs : Cla) (f : Env → R (List D)) (ρ : Env) (x : D) : R (List D) := (bindT g x ρ).bind fun ρ => (evAll T ifs ρ).bind fun k => match k with
    | true => evC T cs f ρ
    | false => .ok []
def EmW (G : Sg) (ex : ExI) (A₀ : Addr → Prop) (H₀ : Hp) (D : Addr) (P : Hp → List PD.D → Prop) (f : Env → R (List PD.D)) (em : L2.St → Hp → (Hp → Prop) → Prop) : Prop :=
  ∀ (A2 : Addr → Prop) (O2 : Ow) (σ2 : L2.St) (H3 : Hp) (ρ2 : Env) (y1 yb : List PD.D) (K Nx : Hp → Prop), Stab D K → K H3 → P H3 y1 → ER G ex A₀ H₀ A2 O2 σ2 H3 ρ2 → f ρ2 = .ok yb → (y1 ++ yb).length ≤ line → (∀ H', K H' → P H' (y1 ++ yb) → Nx H') → em σ2 H3 Nx
theorem body_w {D : Addr} {P : Hp → List PD.D → Prop} {f : Env → R (List PD.D)} {em : L2.St → Hp → (Hp → Prop) → Prop} (D0 : H₀ D = none) (hP : AccQ D P) (hem : EmW G ex A₀ H₀ D P f em) :
    ∀ (cs : Cla) (vs : List Nat) (A2 : Addr → Prop) (O2 : Ow) (σ2 : L2.St) (H3 : Hp) (ρ2 : Env) (y1 yb : List PD.D) (K Nx : Hp → Prop), nsC cs vs → Stab D K → K H3 → P H3 y1 → ER G ex A₀ H₀ A2 O2 σ2 H3 ρ2 → ¬ A2 D → (∀ j k, ¬ O2 j k D) → evC T cs f ρ2 = .ok yb → (y1 ++ yb).length ≤ line →
      (∀ H', K H' → P H' (y1 ++ yb) → Nx H') → tBody em (specs G T ex A₀ H₀ cs) σ2 H3 Nx
  | .nil, vs, A2, O2, σ2, H3, ρ2, y1, yb, K, Nx, hns, hK, k3, hA, er, nA, nO, he, hl, hN => by
    rw [evC] at he
    exact hem A2 O2 σ2 H3 ρ2 y1 yb K Nx hK k3 hA er he hl hN
  | .cons own g it ifs r, vs, A2, O2, σ2, H3, ρ2, y1, yb, K, Nx, hns, hK, k3, hA, er, nA, nO, he, hl, hN => by
    rw [evC] at he
    obtain ⟨xs, b3, c1⟩ := bind_ok he
    have c1 : collect (turnN T g ifs r f (wipeE (unown ρ2 (rootsI it)) own)) xs = .ok yb := c1
    obtain ⟨_, hn, hns'⟩ := hns
    obtain ⟨o0, hD3, hc3⟩ := hP.cell hA
    refine ⟨A2, O2, ρ2, er, ?_⟩
    rw [b3]
    intro J1 H4 ps1 s4 hJ1 hp1
    have er8 := (er.un (rootsI it)).wipe own
    generalize hρ2 : wipeE (unown ρ2 (rootsI it)) own = ρ3 at er8 c1
    let A3 : Addr → Prop := fun q => (A2 q ∨ ow O2 (rootsI it) q) ∨ H3 q = none
    let O3 : Ow := fun j k p => O2 j k p ∧ j ∉ rootsI it
    have nA3 : ¬ A3 D := fun z => by
      rcases z with (z | ⟨j, _, k, z⟩) | z
      · exact nA z
      · exact nO j k z
      · rw [hD3] at z; cases z
    have er9 : ER G ex A₀ H₀ A3 O3 (L2.wipe σ2 own) H4 ρ3 := er8.move s4 (fun q z _ => .inl z) fun q z => z
    have hp4 : ∀ p ∈ ps1, Has G A3 H4 p.1 p.2 := fun p z => (hp1 p z).mono (fun q z => z) (Same.refl _)
    have g4 : ∀ q, H4 q = none → H3 q = none := fun q z => same_none s4 z
    -- all that a turn leaves as it is
    have hK' : Stab D fun Hd => K Hd ∧ ER G ex A₀ H₀ A3 O3 (L2.wipe σ2 own) Hd ρ3 ∧ (∀ p ∈ ps1, Has G A3 Hd p.1 p.2) ∧ ∀ q, Hd q = none → H3 q = none := {
      same := fun {H H'} ⟨k1, k2, k3, k4⟩ s => ⟨hK.same k1 s, k2.move s (fun q z _ => z) fun q z => .inl z, fun p z => (k3 p z).mono (fun _ z => z) s, fun q z => k4 q (same_none s z)⟩
      put := fun {H o o'} ⟨k1, k2, k3, k4⟩ hD hc => ⟨hK.put k1 hD hc, k2.updF (by rw [hD]; exact hc.mut) (fun fs z => hc.nx fs (by rw [← hD]; exact z)) nA3 (fun j k z => nO j k z.1) D0, fun p z => (k3 p z).upd (by rw [hD]; exact hc.mut) nA3, fun q z => by
        by_cases e : q = D
        · subst e
          rw [upd_same] at z
          cases z
        · rw [upd_ne e] at z
          exact k4 q z⟩ }
    refine ⟨fun j k Hd => j + k = xs.length ∧ (K Hd ∧ ER G ex A₀ H₀ A3 O3 (L2.wipe σ2 own) Hd ρ3 ∧ (∀ p ∈ ps1, Has G A3 Hd p.1 p.2) ∧ ∀ q, Hd q = none → H3 q = none) ∧ ∃ z1 z2, P Hd (y1 ++ z1) ∧ collect (turnN T g ifs r f ρ3) (xs.drop j) = .ok z2 ∧ yb = z1 ++ z2,
      ⟨xs.length, by omega, ⟨hK.same k3 s4, er9, hp4, g4⟩, [], yb, by rw [List.append_nil]; exact hP.same hA s4, c1, rfl⟩, ?_⟩
    rintro j k Hd ⟨hjk, kd, z1, z2, haccd, hcold, hyd⟩
    cases hx2 : xs[j]? with
    | none =>
      have hj : xs.length ≤ j := List.getElem?_eq_none_iff.mp hx2
      refine .inl ⟨hJ1.stop A3 Hd j kd.2.2.1 hj, hN Hd kd.1 ?_⟩
      rw [List.drop_eq_nil_of_le hj] at hcold
      cases hcold
      rw [List.append_nil] at hyd
      subst hyd
      exact haccd
    | some x2 =>
      obtain ⟨g3, g4'⟩ := hJ1.go A3 Hd j x2 kd.2.2.1 hx2
      rw [drop_cons hx2] at hcold
      obtain ⟨za, zb, d1, d2, rfl⟩ := collect_cons hcold
      have hj : j < xs.length := (List.getElem?_eq_some_iff.mp hx2).1
      refine .inr ⟨g3, fun H' => (K H' ∧ ER G ex A₀ H₀ A3 O3 (L2.wipe σ2 own) H' ρ3 ∧ (∀ p ∈ ps1, Has G A3 H' p.1 p.2) ∧ ∀ q, H' q = none → H3 q = none) ∧ P H' ((y1 ++ z1) ++ za),
        fun H' ⟨k1, k2⟩ => ⟨k - 1, by omega, by omega, k1, z1 ++ za, zb, by rw [← List.append_assoc]; exact k2, d2, by rw [hyd, List.append_assoc]⟩, fun v2 H5 hy5 => ?_⟩
      obtain ⟨s5, hv5⟩ := g4' v2 H5 hy5
      have kd5 := hK'.same kd s5
      obtain ⟨ρ4, b4, d1⟩ := bind_ok d1
      refine ⟨A3, O3, ρ3, x2, kd5.2.1, hv5.mono (fun q z => z.elim id fun z => .inr (kd.2.2.2 q z)) (Same.refl _), ?_⟩
      rw [b4]
      intro O4 σ3 er12 w12 o12
      refine ⟨by rw [w12 own hn, wipe_wipe], ?_⟩
      obtain ⟨kk, b5, d1⟩ := bind_ok d1
      refine ⟨A3, O4, ρ4, er12, ?_⟩
      rw [b5]
      intro H6 s6
      have kd6 := hK'.same kd5 s6
      have ha6 := hP.same (hP.same haccd s5) s6
      cases kk with
      | false =>
        cases d1
        rw [if_neg Bool.false_ne_true, List.append_nil]
        exact ⟨kd6, ha6⟩
      | true =>
        have d1 : evC T r f ρ4 = .ok za := d1
        rw [if_pos rfl]
        refine body_w D0 hP hem r own A3 O4 σ3 H6 ρ4 (y1 ++ z1) za _ _ hns' hK' kd6 ha6 (er12.move s6 (fun q z _ => z) fun q z => .inl z) nA3 (fun j k z => nO j k (o12 j k D z).1) d1 ?_ fun H' k1 k2 => ⟨k1, k2⟩
        rw [hyd] at hl
        simp only [List.length_append] at hl ⊢
        omega
/-- a whole comprehension -/
theorem outer_w {u0 : HO} {P : Addr → Hp → List PD.D → Prop} {f : Env → R (List PD.D)} {em : Addr → L2.St → Hp → (Hp → Prop) → Prop} {fin : List PD.D → PD.D} {fl : Bool} {g : Tg} {it : It} {ifs : Exs} {cs : Cla} {vs : List Nat} {A : Addr → Prop} {O : Ow} {ρ : Env} {σ : L2.St} {H : Hp} {Q : VK}
    (hP0 : ∀ D H1, P D (upd H1 D u0) []) (hP : ∀ D, AccQ D (P D)) (hem : ∀ D, EmW G ex A₀ H₀ D (P D) f (em D)) (hn : ∀ j ∈ g.ns, j ∈ vs) (hns : nsC cs vs) (er : ER G ex A₀ H₀ A O σ H ρ)
    (h : outD G W (wi A O []) σ fl H ((evIt T it ρ).bind fun xs => (noExc (collect (turnN T g ifs cs f (wipeE (unown ρ (rootsI it)) vs)) xs)).bind fun ys => guardR (decide (ys.length ≤ line)) (.ok (fin ys))) Q)
    (hfin : ∀ D H1 Hc ys, H1 D = none → Same H1 Hc → P D Hc ys → Res G (fr (wi A O []) H) fl H1 (fin ys) Q → Q (.ref D) Hc) :
    tI G T W ex A₀ H₀ it σ H fun J H1 => ∀ D, H1 D = none → ∃ W : Nat → Nat → Hp → Prop, (∃ m, W 0 m (upd H1 D u0)) ∧ ∀ i m H, W i m H →
      (J.stop i H ∧ Q (.ref D) H) ∨ (J.go i H ∧ ∃ Nx : Hp → Prop, (∀ H', Nx H' → ∃ m', m' < m ∧ W (i + 1) m' H') ∧ ∀ x H', J.yld i H x H' → tG G ex A₀ H₀ g x (L2.wipe σ vs) H' fun σ2 H2 => L2.wipe σ2 vs = L2.wipe σ vs ∧ tAll G T noW ex A₀ H₀ ifs σ2 H2 fun b H3 =>
        if b = true then tBody (em D) (specs G T ex A₀ H₀ cs) σ2 H3 Nx else Nx H3) := by
  refine seqI er h fun xs J H1 ps _ s1 hJ hp er1 h1 D hD => ?_
  cases ec : collect (turnN T g ifs cs f (wipeE (unown ρ (rootsI it)) vs)) xs with
  | stk => rw [ec] at h1; exact h1.elim
  | exc x => rw [ec] at h1; exact h1.elim
  | ok ys =>
    rw [ec] at h1
    have h1 : outD G W (fr (wi A O []) H) σ fl H1 (guardR (decide (ys.length ≤ line)) (.ok (fin ys))) Q := h1
    cases c : decide (ys.length ≤ line) with
    | false => rw [c] at h1; exact h1.elim
    | true =>
      rw [c] at h1
      have h1 : Res G (fr (wi A O []) H) fl H1 (fin ys) Q := h1
      have hlen := of_decide_eq_true c
      have er2 := ((er1.un (rootsI it)).wipe vs)
      generalize hρ : wipeE (unown ρ (rootsI it)) vs = ρ' at er2 ec
      let B : Addr → Prop := fun q => ((fr A H q ∨ ow O (rootsI it) q) ∨ H1 q = none) ∧ q ≠ D
      let O' : Ow := fun j k p => O j k p ∧ j ∉ rootsI it
      have nD : ¬ B D := fun z => z.2 rfl
      have ownD : ∀ j k, ¬ O j k D := fun j k z => by
        have := (er1.own j k D z).2.1
        rw [hD] at this
        cases this
      have D0 : H₀ D = none := same_none er1.same hD
      have bk : ∀ {Hc : Hp}, Same H1 Hc → (Hc D).isSome = true → ∀ q, fr B Hc q → B q := fun {Hc} s hs q z => by
        rcases z with z | z
        · exact z
        · refine ⟨.inr (same_none s z), fun e => ?_⟩
          subst e
          rw [z] at hs
          cases hs
      have hK : Stab D fun Hc => Same H1 Hc ∧ ER G ex A₀ H₀ B O' (L2.wipe σ vs) Hc ρ' ∧ ∀ p ∈ ps, Has G B Hc p.1 p.2 := {
        same := fun {H H'} ⟨k1, k2, k3⟩ s => ⟨same_tr k1 s, k2.move s (fun q z _ => z) fun q z => .inl z, fun p z => (k3 p z).mono (fun _ z => z) s⟩
        put := fun {H o o'} ⟨k1, k2, k3⟩ hDo hc => ⟨fun b x e => by
            rw [upd_ne (ne_of_none e hD)]
            exact k1 b x e, k2.updF (by rw [hDo]; exact hc.mut) (fun fs z => hc.nx fs (by rw [← hDo]; exact z)) nD (fun j k z => ownD j k z.1) D0, fun p z => (k3 p z).upd (by rw [hDo]; exact hc.mut) nD⟩ }
      refine ⟨fun i m Hc => i + m = xs.length ∧ (Same H1 Hc ∧ ER G ex A₀ H₀ B O' (L2.wipe σ vs) Hc ρ' ∧ ∀ p ∈ ps, Has G B Hc p.1 p.2) ∧ ∃ y1 y2 : List PD.D, P D Hc y1 ∧ collect (turnN T g ifs cs f ρ') (xs.drop i) = .ok y2 ∧ ys = y1 ++ y2,
        ⟨xs.length, by omega, ⟨?_, ?_, ?_⟩, [], ys, hP0 D H1, ec, rfl⟩, ?_⟩
      · exact same_upd hD
      · have er3 : ER G ex A₀ H₀ B O' (L2.wipe σ vs) H1 ρ' := er2.move (Same.refl H1) (fun q z zs => ⟨.inl z, fun e => by subst e; rw [hD] at zs; cases zs⟩) fun q z => z.1
        exact er3.move (same_upd hD) (fun q z _ => z) fun q z => .inl z
      · intro p hp'
        refine (hp p hp').to (same_upd hD) fun q z zs => ⟨.inl ?_, fun e => by subst e; rw [hD] at zs; cases zs⟩
        rcases z with (z | z) | z
        · exact .inl (.inl z)
        · exact .inr z
        · exact .inl (.inr z)
      · rintro i m Hc ⟨hm, kc, y1, y2, hacc, hcol, hy⟩
        cases hx : xs[i]? with
        | none =>
          have hi : xs.length ≤ i := List.getElem?_eq_none_iff.mp hx
          refine .inl ⟨hJ.stop B Hc i kc.2.2 hi, ?_⟩
          rw [List.drop_eq_nil_of_le hi] at hcol
          cases hcol
          rw [List.append_nil] at hy
          subst hy
          exact hfin D H1 Hc ys hD kc.1 hacc h1
        | some x =>
          obtain ⟨g1, g2⟩ := hJ.go B Hc i x kc.2.2 hx
          rw [drop_cons hx] at hcol
          obtain ⟨ya, yb, c1, c2, rfl⟩ := collect_cons hcol
          have hi : i < xs.length := (List.getElem?_eq_some_iff.mp hx).1
          obtain ⟨o0, hDc, hc0⟩ := (hP D).cell hacc
          refine .inr ⟨g1, fun H' => (Same H1 H' ∧ ER G ex A₀ H₀ B O' (L2.wipe σ vs) H' ρ' ∧ ∀ p ∈ ps, Has G B H' p.1 p.2) ∧ P D H' (y1 ++ ya),
            fun H' ⟨k1, k2⟩ => ⟨m - 1, by omega, by omega, k1, y1 ++ ya, yb, k2, c2, by rw [hy, List.append_assoc]⟩, fun v H2 hy2 => ?_⟩
          obtain ⟨s2, hv⟩ := g2 v H2 hy2
          have k2 := hK.same kc s2
          obtain ⟨ρ2, b1, c1⟩ := bind_ok c1
          refine ⟨B, O', ρ', x, k2.2.1, hv.mono (bk kc.1 (by rw [hDc]; rfl)) (Same.refl _), ?_⟩
          rw [b1]
          intro O2 σ2 er5 w5 o5
          refine ⟨by rw [w5 vs hn, wipe_wipe], ?_⟩
          obtain ⟨k, b2, c1⟩ := bind_ok c1
          refine ⟨B, O2, ρ2, er5, ?_⟩
          rw [b2]
          intro H3 s3
          have k3 := hK.same k2 s3
          have ha3 := (hP D).same ((hP D).same hacc s2) s3
          cases k with
          | false =>
            cases c1
            rw [if_neg Bool.false_ne_true, List.append_nil]
            exact ⟨k3, ha3⟩
          | true =>
            have c1 : evC T cs f ρ2 = .ok ya := c1
            rw [if_pos rfl]
            refine body_w D0 (hP D) (hem D) cs vs B O2 σ2 H3 ρ2 y1 ya _ _ hns hK k3 ha3 (er5.move s3 (fun q z _ => z) fun q z => .inl z) nD (fun j k z => ownD j k (o5 j k D z).1) c1 ?_ fun H' k1 k2 => ⟨k1, k2⟩
            rw [hy] at hlen
            simp only [List.length_append] at hlen ⊢
            omega
/-! lists, dicts -/
def accL (G : Sg) (D : Addr) (H : Hp) (ys : List PD.D) : Prop := ∃ acc, H D = some (.lst acc) ∧ HasL G (fun _ => False) H acc ys
def accD (G : Sg) (D : Addr) (H : Hp) (ys : List PD.D) : Prop := ∃ acc : List (Key × V), H D = some (.dK acc) ∧ (dctOf ys).map Prod.fst = acc.map (fun p => keyD p.1) ∧ HasL G (fun _ => False) H (acc.map Prod.snd) ((dctOf ys).map Prod.snd) ∧ acc.length ≤ ys.length
theorem accL_q (D : Addr) : AccQ D (accL G D) where
  same := fun {H H' ys} ⟨acc, h1, h2⟩ s => ⟨acc, s _ _ h1, h2.mono (fun _ z => z) s⟩
  cell := fun {H ys} ⟨acc, h1, h2⟩ => ⟨_, h1, .inl ⟨_, rfl⟩⟩
theorem accD_q (D : Addr) : AccQ D (accD G D) where
  same := fun {H H' ys} ⟨acc, h1, h2, h3, h4⟩ s => ⟨acc, s _ _ h1, h2, h3.mono (fun _ z => z) s, h4⟩
  cell := fun {H ys} ⟨acc, h1, h2⟩ => ⟨_, h1, .inr ⟨_, rfl⟩⟩
theorem emL_w {e : Ex} (D : Addr) : EmW G ex A₀ H₀ D (accL G D) (fun ρ => (ev T e ρ).bind fun y => guardR (froz y) (.ok [y])) (emLN (tD G T noW ex A₀ H₀ e) D) := by
  intro A2 O2 σ2 H3 ρ2 y1 yb K Nx hK k3 hA er hf hl hN
  obtain ⟨y, b3, hf⟩ := bind_ok hf
  obtain ⟨hz, hf⟩ := guardR_ok hf
  cases hf
  refine ⟨A2, O2, ρ2, er, ?_⟩
  rw [b3]
  intro w H4 s4 hw _
  obtain ⟨acc, hD, hh⟩ := hA
  have hD4 := s4 _ _ hD
  have mu : Mut (H4 D) := by rw [hD4]; exact trivial
  refine ⟨acc, hD4, ?_, hN _ (hK.put (hK.same k3 s4) hD4 (.inl ⟨_, rfl⟩)) ⟨acc ++ [w], upd_same, HasL.append ((hh.mono (fun _ z => z) s4).upd mu id) (HasL.one ((Has.froz hz hw).upd mu id))⟩⟩
  rw [hh.length, ← line_eq]
  rw [List.length_append, List.length_singleton] at hl
  omega
theorem emD_w {ke ve : Ex} (D : Addr) : EmW G ex A₀ H₀ D (accD G D) (fun ρ => (ev T ke ρ).bind fun y => (ev T ve ρ).bind fun z => guardR (keyOk false y && froz z) (.ok [.tup [y, z]])) (emDN (tD G T noW ex A₀ H₀ ke) (tD G T noW ex A₀ H₀ ve) D) := by
  intro A2 O2 σ2 H3 ρ2 y1 yb K Nx hK k3 hA er hf hl hN
  obtain ⟨y, b3, hf⟩ := bind_ok hf
  obtain ⟨z, b4, hf⟩ := bind_ok hf
  obtain ⟨cg, hf⟩ := guardR_ok hf
  cases hf
  obtain ⟨cg1, cg2⟩ := bb cg
  refine ⟨A2, O2, ρ2, er, ?_⟩
  rw [b3]
  intro wk H4 s4 hwk _
  obtain ⟨key, ek1, ek2⟩ := key_int hwk cg1
  subst ek1 ek2
  refine ⟨fr A2 H3, O2, ρ2, er.go s4, ?_⟩
  rw [b4]
  intro w H5 s5 hw _
  obtain ⟨acc, hD, hky, hh, hle⟩ := hA
  have sA := same_tr s4 s5
  have hD5 := sA _ _ hD
  have mu : Mut (H5 D) := by rw [hD5]; exact trivial
  rw [List.length_append, List.length_singleton] at hl
  obtain ⟨q1, q2⟩ := putK_rel eqD_key key (Has.froz (A' := fun _ => False) cg2 hw) hky (hh.mono (fun _ z => z) sA)
  refine ⟨acc, key, rfl, hD5, by rw [← line_eq]; omega, hN _ (hK.put (hK.same k3 sA) hD5 (.inr ⟨_, rfl⟩)) ⟨L2.putK acc key w, upd_same, ?_, ?_, ?_⟩⟩
  · rw [dctOf_snoc]
    exact q1
  · rw [dctOf_snoc]
    exact q2.upd mu id
  · rw [List.length_append, List.length_singleton]
    exact Nat.le_trans (length_putK acc key w) (Nat.succ_le_succ hle)
theorem lcN_w {vs : List Nat} {g : Tg} {it : It} {ifs : Exs} {cs : Cla} {e : Ex} (hn : ∀ j ∈ g.ns, j ∈ vs) (hns : nsC cs vs) {σ : L2.St} {H : Hp} {Q : VK} (h : tD G T W ex A₀ H₀ (.lcN vs g it ifs cs e) σ H Q) :
    tLN (tI G T W ex A₀ H₀ it) (tG G ex A₀ H₀ g) (tAll G T noW ex A₀ H₀ ifs) (specs G T ex A₀ H₀ cs) (tD G T noW ex A₀ H₀ e) vs σ H Q := by
  obtain ⟨A, O, ρ, er, h⟩ := h
  rw [ev] at h
  exact outer_w (u0 := .lst []) (P := accL G) (em := emLN (tD G T noW ex A₀ H₀ e)) (fin := .lst) (fun D H1 => ⟨[], upd_same, .nil⟩) accL_q emL_w hn hns er h fun D H1 Hc ys hD s ⟨acc, h1, h2⟩ r =>
    r _ Hc s (.lst (.inr hD) h1 (h2.mono (fun q z => z.elim) (Same.refl _))) fun _ => ⟨D, acc, rfl, hD, h1, h2.mono (fun q z => z.elim) (Same.refl _)⟩
theorem dcN_w {vs : List Nat} {g : Tg} {it : It} {ifs : Exs} {cs : Cla} {ke ve : Ex} (hn : ∀ j ∈ g.ns, j ∈ vs) (hns : nsC cs vs) {σ : L2.St} {H : Hp} {Q : VK} (h : tD G T W ex A₀ H₀ (.dcN vs g it ifs cs ke ve) σ H Q) :
    tDN (tI G T W ex A₀ H₀ it) (tG G ex A₀ H₀ g) (tAll G T noW ex A₀ H₀ ifs) (specs G T ex A₀ H₀ cs) (tD G T noW ex A₀ H₀ ke) (tD G T noW ex A₀ H₀ ve) vs σ H Q := by
  obtain ⟨A, O, ρ, er, h⟩ := h
  rw [ev] at h
  exact outer_w (u0 := .dK []) (P := accD G) (em := emDN (tD G T noW ex A₀ H₀ ke) (tD G T noW ex A₀ H₀ ve)) (fin := fun ys => .dct false (dctOf ys)) (fun D H1 => ⟨[], upd_same, rfl, .nil, Nat.le_refl _⟩) accD_q emD_w hn hns er h fun D H1 Hc ys hD s ⟨acc, h1, h2, h3, _⟩ r =>
    r _ Hc s (.dK (.inr hD) (.inl h1) h2 (h3.mono (fun q z => z.elim) (Same.refl _))) fun e => absurd e Bool.false_ne_true
variable {q : Bool}
theorem se_LN {own : List (Str × Nat)} {g : Tg} {it : It} {ifs : Exs} {cs : Cla} {e : Ex} {elt tg iter : Expr} {xifs : List Expr} {rest : List Comprehension} {scope : Scope} {pos : Pos} (P : PX G S T X L W ex) (hc : L.cm = true) (hi : PI X tg iter (tI G T W ex A₀ H₀ it)) (ok : BlkOk X.N X.env.scope scope own) (hv : ∀ i ∈ vsOf (specs G T ex A₀ H₀ cs), i ∈ own.map (·.2))
    (hg : ∀ (s : Shared) (H : Hp) (C : Addr) (cl : List (Str × Addr)) (fp : List Addr), PG (X.blk s H scope (compEnvC scope cl C X.env) fp) tg (tG G ex A₀ H₀ g))
    (ht : ∀ (s : Shared) (H : Hp) (C : Addr) (cl : List (Str × Addr)) (fp : List Addr), PTs (X.blk s H scope (compEnvC scope cl C X.env) fp) xifs (tAll G T noW ex A₀ H₀ ifs))
    (hdp : ∀ (s : Shared) (H : Hp) (C : Addr) (cl : List (Str × Addr)) (fp : List Addr), Deep (X.blk s H scope (compEnvC scope cl C X.env) fp) (⟨tg, iter, xifs, 0⟩ :: rest) 1 (specs G T ex A₀ H₀ cs))
    (he : ∀ (s : Shared) (H : Hp) (C : Addr) (cl : List (Str × Addr)) (fp : List Addr), PE (X.blk s H scope (compEnvC scope cl C X.env) fp) elt (tD G T noW ex A₀ H₀ e))
    (hs : ∀ x, foldedSetIterable iter X.env x = pure x) (hn : ∀ j ∈ g.ns, j ∈ own.map (·.2)) (hns : nsC cs (own.map (·.2))) : PE X (.ListComp elt (⟨tg, iter, xifs, 0⟩ :: rest) scope pos) (tD G T W ex A₀ H₀ (.lcN (own.map (·.2)) g it ifs cs e)) :=
  PE.of (pe_LN (P.calm hc) (by rw [P.nm]; exact P.nd) hi ok hv hg ht hdp he hs) fun σ H Q h => lcN_w hn hns h
theorem ss_setLN {own : List (Str × Nat)} {i : Nat} {y : Str} {g : Tg} {it : It} {ifs : Exs} {cs : Cla} {e : Ex} {elt tg iter : Expr} {xifs : List Expr} {rest : List Comprehension} {scope : Scope} {py pos spos : Pos} (P : PX G S T X L W ex) (hc : L.cm = true) (hy : X.N[i]? = some y) (hyl : X.env.scope.names.lookup y = some .local)
    (hsw : swapsWith (.ListComp elt (⟨tg, iter, xifs, 0⟩ :: rest) scope pos) (some (.Name y py)) spos.line X.env = pure true) (hi : PI X tg iter (tI G T W ex A₀ H₀ it)) (ok : BlkOk X.N X.env.scope scope own) (hv : ∀ i ∈ vsOf (specs G T ex A₀ H₀ cs), i ∈ own.map (·.2))
    (hg : ∀ (s : Shared) (H : Hp) (C : Addr) (cl : List (Str × Addr)) (fp : List Addr), PG (X.blk s H scope (compEnvC scope cl C X.env) fp) tg (tG G ex A₀ H₀ g))
    (ht : ∀ (s : Shared) (H : Hp) (C : Addr) (cl : List (Str × Addr)) (fp : List Addr), PTs (X.blk s H scope (compEnvC scope cl C X.env) fp) xifs (tAll G T noW ex A₀ H₀ ifs))
    (hdp : ∀ (s : Shared) (H : Hp) (C : Addr) (cl : List (Str × Addr)) (fp : List Addr), Deep (X.blk s H scope (compEnvC scope cl C X.env) fp) (⟨tg, iter, xifs, 0⟩ :: rest) 1 (specs G T ex A₀ H₀ cs))
    (he : ∀ (s : Shared) (H : Hp) (C : Addr) (cl : List (Str × Addr)) (fp : List Addr), PE (X.blk s H scope (compEnvC scope cl C X.env) fp) elt (tD G T noW ex A₀ H₀ e))
    (hs : ∀ x, foldedSetIterable iter X.env x = pure x) (hn : ∀ j ∈ g.ns, j ∈ own.map (·.2)) (hns : nsC cs (own.map (·.2))) : PS X (.Assign [.Name y py] (.ListComp elt (⟨tg, iter, xifs, 0⟩ :: rest) scope pos) spos) (tS G T W ex A₀ H₀ q (.asg (.n i) (.lcN (own.map (·.2)) g it ifs cs e))) :=
  PS.of (ps_setLN (P.calm hc) (by rw [P.nm]; exact P.nd) hy hyl hsw hi ok hv hg ht hdp he hs) fun _ _ _ h => lcN_w hn hns (asg_step h)
theorem se_DN {own : List (Str × Nat)} {g : Tg} {it : It} {ifs : Exs} {cs : Cla} {ke ve : Ex} {kx vx tg iter : Expr} {xifs : List Expr} {rest : List Comprehension} {scope : Scope} {pos : Pos} (P : PX G S T X L W ex) (hc : L.cm = true) (hi : PI X tg iter (tI G T W ex A₀ H₀ it)) (ok : BlkOk X.N X.env.scope scope own) (hv : ∀ i ∈ vsOf (specs G T ex A₀ H₀ cs), i ∈ own.map (·.2))
    (hg : ∀ (s : Shared) (H : Hp) (C : Addr) (cl : List (Str × Addr)) (fp : List Addr), PG (X.blk s H scope (compEnvC scope cl C X.env) fp) tg (tG G ex A₀ H₀ g))
    (ht : ∀ (s : Shared) (H : Hp) (C : Addr) (cl : List (Str × Addr)) (fp : List Addr), PTs (X.blk s H scope (compEnvC scope cl C X.env) fp) xifs (tAll G T noW ex A₀ H₀ ifs))
    (hdp : ∀ (s : Shared) (H : Hp) (C : Addr) (cl : List (Str × Addr)) (fp : List Addr), Deep (X.blk s H scope (compEnvC scope cl C X.env) fp) (⟨tg, iter, xifs, 0⟩ :: rest) 1 (specs G T ex A₀ H₀ cs))
    (hk : ∀ (s : Shared) (H : Hp) (C : Addr) (cl : List (Str × Addr)) (fp : List Addr), PE (X.blk s H scope (compEnvC scope cl C X.env) fp) kx (tD G T noW ex A₀ H₀ ke)) (he : ∀ (s : Shared) (H : Hp) (C : Addr) (cl : List (Str × Addr)) (fp : List Addr), PE (X.blk s H scope (compEnvC scope cl C X.env) fp) vx (tD G T noW ex A₀ H₀ ve))
    (hs : ∀ x, foldedSetIterable iter X.env x = pure x) (hn : ∀ j ∈ g.ns, j ∈ own.map (·.2)) (hns : nsC cs (own.map (·.2))) : PE X (.DictComp kx vx (⟨tg, iter, xifs, 0⟩ :: rest) scope pos) (tD G T W ex A₀ H₀ (.dcN (own.map (·.2)) g it ifs cs ke ve)) :=
  PE.of (pe_DN (P.calm hc) (by rw [P.nm]; exact P.nd) hi ok hv hg ht hdp hk he hs) fun σ H Q h => dcN_w hn hns h
theorem ss_setDN {own : List (Str × Nat)} {i : Nat} {y : Str} {g : Tg} {it : It} {ifs : Exs} {cs : Cla} {ke ve : Ex} {kx vx tg iter : Expr} {xifs : List Expr} {rest : List Comprehension} {scope : Scope} {py pos spos : Pos} (P : PX G S T X L W ex) (hc : L.cm = true) (hy : X.N[i]? = some y) (hyl : X.env.scope.names.lookup y = some .local)
    (hsw : swapsWith (.DictComp kx vx (⟨tg, iter, xifs, 0⟩ :: rest) scope pos) (some (.Name y py)) spos.line X.env = pure true) (hi : PI X tg iter (tI G T W ex A₀ H₀ it)) (ok : BlkOk X.N X.env.scope scope own) (hv : ∀ i ∈ vsOf (specs G T ex A₀ H₀ cs), i ∈ own.map (·.2))
    (hg : ∀ (s : Shared) (H : Hp) (C : Addr) (cl : List (Str × Addr)) (fp : List Addr), PG (X.blk s H scope (compEnvC scope cl C X.env) fp) tg (tG G ex A₀ H₀ g))
    (ht : ∀ (s : Shared) (H : Hp) (C : Addr) (cl : List (Str × Addr)) (fp : List Addr), PTs (X.blk s H scope (compEnvC scope cl C X.env) fp) xifs (tAll G T noW ex A₀ H₀ ifs))
    (hdp : ∀ (s : Shared) (H : Hp) (C : Addr) (cl : List (Str × Addr)) (fp : List Addr), Deep (X.blk s H scope (compEnvC scope cl C X.env) fp) (⟨tg, iter, xifs, 0⟩ :: rest) 1 (specs G T ex A₀ H₀ cs))
    (hk : ∀ (s : Shared) (H : Hp) (C : Addr) (cl : List (Str × Addr)) (fp : List Addr), PE (X.blk s H scope (compEnvC scope cl C X.env) fp) kx (tD G T noW ex A₀ H₀ ke)) (he : ∀ (s : Shared) (H : Hp) (C : Addr) (cl : List (Str × Addr)) (fp : List Addr), PE (X.blk s H scope (compEnvC scope cl C X.env) fp) vx (tD G T noW ex A₀ H₀ ve))
    (hs : ∀ x, foldedSetIterable iter X.env x = pure x) (hn : ∀ j ∈ g.ns, j ∈ own.map (·.2)) (hns : nsC cs (own.map (·.2))) : PS X (.Assign [.Name y py] (.DictComp kx vx (⟨tg, iter, xifs, 0⟩ :: rest) scope pos) spos) (tS G T W ex A₀ H₀ q (.asg (.n i) (.dcN (own.map (·.2)) g it ifs cs ke ve))) :=
  PS.of (ps_setDN (P.calm hc) (by rw [P.nm]; exact P.nd) hy hyl hsw hi ok hv hg ht hdp hk he hs) fun _ _ _ h => dcN_w hn hns (asg_step h)
end
end PD
end

section
set_option Elab.async false
set_option linter.all false
set_option maxRecDepth 100000
set_option maxHeartbeats 4000000
/-! PD, part 15: the small language against the text's own trees. -/
namespace PD
open PySem PySem.Spec PyProof.Rows L2

def visB (sc : Scope) (x : Str) : Bool := match sc.names.lookup x with
  | some .local => true
  | some .cell => true
  | some .free => true
  | _ => false
def locB (L : Lo) (x : Str) : Bool := match L.sc.names.lookup x with
  | some .local => true
  | some .cell => L.fn x
  | _ => false
def glB (L : Lo) (x : Str) : Bool := (match L.sc.names.lookup x with
  | some .globalImplicit => true
  | _ => false) && !(x == ("__debug__" : Str))
def nmB (S : Sx) (L : Lo) (i : Nat) (x : Str) : Bool := decide (S.N[i]? = some x) && (visB L.sc x && (!(x == ("__debug__" : Str)) && !(x == ("__classdict__" : Str))))
def opB : BinO → Operator → Bool
  | .add, .Add => true
  | .sub, .Sub => true
  | .mul, .Mult => true
  | .fdiv, .FloorDiv => true
  | .mod, .Mod => true
  | .pow, .Pow => true
  | _, _ => false
def cmpB : CmpO → CmpOp → Bool
  | .eq, .Eq => true
  | .ne, .NotEq => true
  | .lt, .Lt => true
  | .le, .LtE => true
  | .gt, .Gt => true
  | .ge, .GtE => true
  | .isin, .In => true
  | .notin, .NotIn => true
  | .iss, .Is => true
  | .isnt, .IsNot => true
  | _, _ => false
theorem opB_ok {o : BinO} {op : Operator} (h : opB o op = true) : op = opOf o := by
  cases o <;> cases op <;> first
    | rfl
    | exact absurd h Bool.false_ne_true
theorem cmpB_ok {o : CmpO} {op : CmpOp} (h : cmpB o op = true) : op = cOp o := by
  cases o <;> cases op <;> first
    | rfl
    | exact absurd h Bool.false_ne_true
def notSetE : Expr → Bool
  | .Set _ _ _ => false
  | _ => true
theorem folded_no {e : Expr} (h : notSetE e = true) (env : PySem.Env) (x : Value) : foldedSetIterable e env x = pure x := by
  cases e <;> first
    | rfl
    | exact absurd h Bool.false_ne_true
def kB : NameKind → NameKind → Bool
  | .local, .local => true
  | .cell, .cell => true
  | .free, .free => true
  | .globalImplicit, .globalImplicit => true
  | .globalExplicit, .globalExplicit => true
  | _, _ => false
def lkB (o : Option NameKind) (k : NameKind) : Bool := match o with
  | some k' => kB k' k
  | none => false
theorem kB_ok {a b : NameKind} (h : kB a b = true) : a = b := by
  cases a <;> cases b <;> first
    | rfl
    | exact absurd h Bool.false_ne_true
theorem lkB_ok {o : Option NameKind} {k : NameKind} (h : lkB o k = true) : o = some k := by
  cases o with
  | none => exact absurd h Bool.false_ne_true
  | some k' => rw [kB_ok h]
def funB : ScopeKind → Bool
  | .function => true
  | _ => false
theorem funB_ok {k : ScopeKind} (h : funB k = true) : k = .function := by
  cases k <;> first
    | rfl
    | exact absurd h Bool.false_ne_true
def ownL (S : Sx) (own : List Nat) : List (Str × Nat) := own.map fun i => (S.N.getD i "", i)
theorem ownL_snd (S : Sx) (own : List Nat) : (ownL S own).map (·.2) = own := by
  unfold ownL
  rw [List.map_map]
  exact List.map_id own
def blkB (S : Sx) (sc scope : Scope) (own : List Nat) : Bool := funB scope.kind && ((scope.names.all fun y => lkB (scope.names.lookup y.1) y.2) && ((own.all fun i => decide (i < S.N.length)) &&
  ((scope.names.all fun y => !kB y.2 .free || (lkB (sc.names.lookup y.1) .cell || lkB (sc.names.lookup y.1) .free)) && (scope.names.all fun y => !(kB y.2 .local || kB y.2 .cell) || (decide (y.1 ∈ (ownL S own).map (·.1)) || decide (y.1 ∉ S.N))))))
theorem blkB_ok {S : Sx} {sc scope : Scope} {own : List Nat} (h : blkB S sc scope own = true) : BlkOk S.N sc scope (ownL S own) := by
  obtain ⟨h1, h⟩ := bb h
  obtain ⟨h2, h⟩ := bb h
  obtain ⟨h3, h⟩ := bb h
  obtain ⟨h4, h5⟩ := bb h
  rw [List.all_eq_true] at h2 h3 h4 h5
  refine ⟨funB_ok h1, fun y hy => lkB_ok (h2 y hy), fun p hp => ?_, fun y hy e => ?_, fun y hy e => ?_⟩
  · obtain ⟨i, hi, rfl⟩ := List.mem_map.mp hp
    have := of_decide_eq_true (h3 i hi)
    show S.N[i]? = some (S.N.getD i "")
    simp [List.getD, List.getElem?_eq_getElem this]
  · have z := h4 y hy
    rw [e] at z
    rcases Bool.or_eq_true_iff.mp z with z | z
    · cases z
    · exact (Bool.or_eq_true_iff.mp z).imp lkB_ok lkB_ok
  · have z := h5 y hy
    rcases Bool.or_eq_true_iff.mp z with z | z
    · rcases e with e | e <;> (rw [e] at z; cases z)
    · exact (Bool.or_eq_true_iff.mp z).imp of_decide_eq_true of_decide_eq_true
mutual
def chkT (S : Sx) (L : Lo) : Tg → Expr → Bool
  | .n i, e => (match e with
    | .Name x _ => decide (S.N[i]? = some x) && locB L x
    | _ => false)
  | .t gs, e => (match e with
    | .Tuple es _ _ => L.cm && (decide (gs.len = es.length) && (noStars es && chkTs S L gs es))
    | _ => false)
def chkTs (S : Sx) (L : Lo) : Tgs → List Expr → Bool
  | .nil, es => es.isEmpty
  | .cons g r, es => (match es with
    | e :: es => chkT S L g e && chkTs S L r es
    | [] => false)
end
mutual
def chk (S : Sx) : Lo → Ex → Expr → Bool
  | L, .var i, e => (match e with
    | .Name x _ => nmB S L i x
    | _ => false)
  | _, .cI i, e => (match e with
    | .Constant (.int j) _ _ => decide (j = i)
    | _ => false)
  | _, .cB b, e => (match e with
    | .Constant (.bool c) _ _ => decide (c = b)
    | _ => false)
  | _, .cN, e => (match e with
    | .Constant .none _ _ => true
    | _ => false)
  | _, .cS s, e => (match e with
    | .Constant (.str t) _ _ => decide (t = s)
    | _ => false)
  | L, .gI x i, e => (match e with
    | .Name y _ => decide (y = x) && (glB L y && decide ((y, i) ∈ S.gInts))
    | _ => false)
  | L, .gS x i, e => (match e with
    | .Name y _ => decide (y = x) && (glB L y && decide ((y, i) ∈ S.gStrs))
    | _ => false)
  | L, .bin o a b, e => (match e with
    | .BinOp ea op eb _ => opB o op && (chk S L a ea && chk S L b eb)
    | _ => false)
  | L, .neg a, e => (match e with
    | .UnaryOp .USub ea _ => chk S L a ea
    | _ => false)
  | L, .cmp o a b, e => (match e with
    | .Compare ea [op] [eb] _ => cmpB o op && (!behindInMarks op eb && (chk S L a ea && chk S L b eb))
    | _ => false)
  | L, .cmp2 o o' a b c, e => (match e with
    | .Compare ea [op, op'] [eb, ec] _ => cmpB o op && (cmpB o' op' && (!lastMarks [op, op'] [eb, ec] && (chk S L a ea && (chk S L b eb && chk S L c ec))))
    | _ => false)
  | L, .cmp3 o o' o2 a b c d, e => (match e with
    | .Compare ea [op, op', op2] [eb, ec, ed] _ => cmpB o op && (cmpB o' op' && (cmpB o2 op2 && (!lastMarks [op, op', op2] [eb, ec, ed] && (chk S L a ea && (chk S L b eb && (chk S L c ec && chk S L d ed))))))
    | _ => false)
  | L, .isN a, e => (match e with
    | .Compare ea [.Is] [.Constant .none _ _] _ => chk S L a ea
    | _ => false)
  | L, .notN a, e => (match e with
    | .Compare ea [.IsNot] [.Constant .none _ _] _ => chk S L a ea
    | _ => false)
  | L, .and a b, e => (match e with
    | .BoolOp .And [ea, eb] _ => chk S L a ea && chk S L b eb
    | .BoolOp .And (ea :: eb :: ec :: r) pos => chk S L a ea && chk S L b (.BoolOp .And (eb :: ec :: r) pos)
    | _ => false)
  | L, .or a b, e => (match e with
    | .BoolOp .Or [ea, eb] _ => chk S L a ea && chk S L b eb
    | .BoolOp .Or (ea :: eb :: ec :: r) pos => chk S L a ea && chk S L b (.BoolOp .Or (eb :: ec :: r) pos)
    | _ => false)
  | L, .not a, e => (match e with
    | .UnaryOp .Not ea _ => chk S L a ea
    | _ => false)
  | L, .ite c a b, e => (match e with
    | .IfExp ec ea eb _ => chk S L c ec && (chk S L a ea && chk S L b eb)
    | _ => false)
  | L, .tup es, e => (match e with
    | .Tuple xs _ _ => chks S L es xs
    | _ => false)
  | L, .lst es, e => (match e with
    | .List xs _ => chks S L es xs
    | _ => false)
  | _, .newD _, e => (match e with
    | .Dict [] [] _ => true
    | _ => false)
  | L, .idx a b, e => (match e with
    | .Subscript ea eb _ => notSlice eb && (chk S L a ea && chk S L b eb)
    | _ => false)
  | L, .slL a l, e => (match e with
    | .Subscript ea (.Slice (some el) none none _) _ => chk S L a ea && chk S L l el
    | _ => false)
  | L, .slU a l, e => (match e with
    | .Subscript ea (.Slice none (some el) none _) _ => chk S L a ea && chk S L l el
    | _ => false)
  | L, .slB a l u, e => (match e with
    | .Subscript ea (.Slice (some el) (some eu) none _) _ => chk S L a ea && (chk S L l el && chk S L u eu)
    | _ => false)
  | L, .fld a y, e => (match e with
    | .Attribute ea z _ => decide (z = y) && (attrOk ea && (decide (z ≠ memoF) && chk S L a ea))
    | _ => false)
  | L, .call f es, e => (match e with
    | .Call (.Name x _) xs [] _ => L.cm && (decide (S.fname[f]? = some (some x)) && (glB L x && (noStars xs && chks S L es xs)))
    | _ => false)
  | L, .callQ f es, e => (match e with
    | .Call (.Name x _) (a :: xs) [] _ => !L.cm && (decide (f ∈ S.quiet) && (decide (S.fname[f]? = some (some x)) && (glB L x && (noStars (a :: xs) && chks S L es (a :: xs)))))
    | _ => false)
  | L, .callO f es, e => (match e with
    | .Call (.Name x _) (a :: xs) [] _ => L.cm && (decide (S.fname[f]? = some (some x)) && (glB L x && (noStars (a :: xs) && chks S L es (a :: xs))))
    | _ => false)
  | L, .mk c f es, e => (match e with
    | .Call (.Name x _) (a :: xs) [] _ => L.cm && (decide (S.cname[c]? = some x) && (decide (S.ini[f]? = some (some c)) && (glB L x && (noStars (a :: xs) && chks S L es (a :: xs)))))
    | _ => false)
  | L, .bi b es, e => (match e with
    | .Call (.Name x _) (a :: xs) [] _ => L.cm && (decide (x = bltN b) && (decide (x ∈ S.free) && (glB L x && (noStars (a :: xs) && chks S L es (a :: xs)))))
    | _ => false)
  | L, .isi a t, e => (match e with
    | .Call (.Name x _) [ea, .Name y _] [] _ => decide (x = ("isinstance" : Str)) && (decide (y = isNm t) && (decide (x ∈ S.free) && (decide (y ∈ S.free) && (glB L x && (glB L y && (notStar ea && chk S L a ea))))))
    | _ => false)
  | _, .isC _ _, _ => false
  | L, .isE i c, e => (match e with
    | .Call (.Name x _) [.Name z _, .Name y _] [] _ => !L.cm && (decide (x = ("isinstance" : Str)) && (decide (x ∈ S.free) && (glB L x && (glB L y && (nmB S L i z && (decide (S.ename[c]? = some y) || (decide (c = 1000) && (decide (y = ("ValueError" : Str)) && decide (y ∈ S.free)))))))))
    | _ => false)
  | L, .fldE i c, e => (match e with
    | .Attribute (.Name x _) z _ => !L.cm && (nmB S L i x && (decide (S.nx ≤ c) && decide (S.ef[c]? = some z)))
    | _ => false)
  | L, .lR (.r1 a), e => (match e with
    | .Call (.Name x _) [.Call (.Name y _) [ea] [] _] [] _ => L.cm && (decide (x = ("list" : Str)) && (decide (x ∈ S.free) && (decide (y = ("range" : Str)) && (decide (y ∈ S.free) && (glB L x && (glB L y && (notStar ea && chk S L a ea)))))))
    | _ => false)
  | _, .lR _, _ => false
  | L, .tR (.r1 a), e => (match e with
    | .Call (.Name x _) [.Call (.Name y _) [ea] [] _] [] _ => L.cm && (decide (x = ("tuple" : Str)) && (decide (x ∈ S.free) && (decide (y = ("range" : Str)) && (decide (y ∈ S.free) && (glB L x && (glB L y && (notStar ea && chk S L a ea)))))))
    | _ => false)
  | _, .tR _, _ => false
  | L, .lc own g it ifs e, x => (match x with
    | .ListComp elt [⟨tg, iter, xifs, 0⟩] scope _ => L.cm && (blkB S L.sc scope own && (chkT S (L.blk scope) g tg && (chkI S L it tg iter && (chkF S (L.blk scope) ifs xifs && (chk S (L.blk scope) e elt && (notSetE iter && g.ns.all fun j => decide (j ∈ own)))))))
    | _ => false)
  | L, .lc2 own own2 g it ifs g2 it2 ifs2 e, x => (match x with
    | .ListComp elt [⟨tg, iter, xifs, 0⟩, ⟨tg2, iter2, xifs2, 0⟩] scope _ => L.cm && (blkB S L.sc scope own && (chkT S (L.blk scope) g tg && (chkI S L it tg iter && (chkF S (L.blk scope) ifs xifs && (chk S (L.blk scope) e elt && (notSetE iter && ((g.ns.all fun j => decide (j ∈ own)) &&
        (chkT S (L.blk scope) g2 tg2 && (chkI S (L.blk scope) it2 tg2 iter2 && (chkF S (L.blk scope) ifs2 xifs2 && (notSetE iter2 && ((g2.ns.all fun j => decide (j ∈ own2)) && own2.all fun j => decide (j ∈ own)))))))))))))
    | _ => false)
  | L, .dc own g it ifs k v, x => (match x with
    | .DictComp kx vx [⟨tg, iter, xifs, 0⟩] scope _ => L.cm && (blkB S L.sc scope own && (chkT S (L.blk scope) g tg && (chkI S L it tg iter && (chkF S (L.blk scope) ifs xifs && (chk S (L.blk scope) k kx && (chk S (L.blk scope) v vx && (notSetE iter && g.ns.all fun j => decide (j ∈ own))))))))
    | _ => false)
  | L, .lcN own g it ifs cs e, x => (match x with
    | .ListComp elt (⟨tg, iter, xifs, 0⟩ :: rest) scope _ => L.cm && (blkB S L.sc scope own && (chkT S (L.blk scope) g tg && (chkI S L it tg iter && (chkF S (L.blk scope) ifs xifs && (chk S (L.blk scope) e elt && (notSetE iter && ((g.ns.all fun j => decide (j ∈ own)) && chkC S (L.blk scope) own cs rest)))))))
    | _ => false)
  | L, .dcN own g it ifs cs k v, x => (match x with
    | .DictComp kx vx (⟨tg, iter, xifs, 0⟩ :: rest) scope _ => L.cm && (blkB S L.sc scope own && (chkT S (L.blk scope) g tg && (chkI S L it tg iter && (chkF S (L.blk scope) ifs xifs && (chk S (L.blk scope) k kx && (chk S (L.blk scope) v vx && (notSetE iter && ((g.ns.all fun j => decide (j ∈ own)) && chkC S (L.blk scope) own cs rest))))))))
    | _ => false)
  | L, .dC a, e => (match e with
    | .Call (.Name x _) [ea] [] _ => decide (x = ("dict" : Str)) && (decide (x ∈ S.free) && (glB L x && (notStar ea && chk S L a ea)))
    | _ => false)
  | L, .dZ a b, e => (match e with
    | .Call (.Name x _) [.Call (.Name y _) [ea, eb] [] _] [] _ => L.cm && (decide (x = ("dict" : Str)) && (decide (x ∈ S.free) && (decide (y = ("zip" : Str)) && (decide (y ∈ S.free) && (glB L x && (glB L y && (notStar ea && (notStar eb && (chk S L a ea && chk S L b eb)))))))))
    | _ => false)
/-- the clauses behind the first -/
def chkC (S : Sx) : Lo → List Nat → Cla → List Comprehension → Bool
  | _, _, .nil, gs => gs.isEmpty
  | L, vs, .cons own g it ifs r, gs => (match gs with
    | ⟨tg, iter, xifs, 0⟩ :: rest => (own.all fun j => decide (j ∈ vs)) && ((g.ns.all fun j => decide (j ∈ own)) && (chkT S L g tg && (chkI S L it tg iter && (chkF S L ifs xifs && (notSetE iter && chkC S L own r rest)))))
    | _ => false)
def chks (S : Sx) : Lo → Exs → List Expr → Bool
  | _, .nil, es => es.isEmpty
  | L, .cons i r, es => (match es with
    | e :: es => notStar e && (chk S L i e && chks S L r es)
    | [] => false)
  | L, .star i r, es => (match es with
    | .Starred e _ :: es => chk S L i e && chks S L r es
    | _ => false)
def chkF (S : Sx) : Lo → Exs → List Expr → Bool
  | _, .nil, es => es.isEmpty
  | L, .cons i r, es => (match r, es with
    | .nil, [e] => chk S L i e
    | _, _ => false)
  | _, .star _ _, _ => false
def chkI (S : Sx) : Lo → It → Expr → Expr → Bool
  | L, .e a, _, e => chk S L a e
  | L, .r1 a, _, e => (match e with
    | .Call (.Name x _) [ea] [] _ => decide (x = ("range" : Str)) && (decide (x ∈ S.free) && (glB L x && (notStar ea && chk S L a ea)))
    | _ => false)
  | L, .r2 a b, _, e => (match e with
    | .Call (.Name x _) [ea, eb] [] _ => decide (x = ("range" : Str)) && (decide (x ∈ S.free) && (glB L x && (notStar ea && (notStar eb && (chk S L a ea && chk S L b eb)))))
    | _ => false)
  | L, .en a, tg, e => (match tg, e with
    | .Tuple _ _ _, .Call (.Name x _) [ea] [] _ => decide (x = ("enumerate" : Str)) && (decide (x ∈ S.free) && (glB L x && (notStar ea && chk S L a ea)))
    | _, _ => false)
  | L, .zp a b, tg, e => (match tg, e with
    | .Tuple _ _ _, .Call (.Name x _) [ea, eb] [] _ => decide (x = ("zip" : Str)) && (decide (x ∈ S.free) && (glB L x && (notStar ea && (notStar eb && (chk S L a ea && chk S L b eb)))))
    | _, _ => false)
end

/-! ### soundness -/
section
variable {G : Sg} {S : Sx} {T : Tab} {ex : ExI} {A₀ : Addr → Prop} {H₀ : Hp}
theorem visB_ok {X : Cx} {L : Lo} (es : X.env.scope = L.sc) {x : Str} (h : visB L.sc x = true) : Vis X.env.scope x := by
  rw [es]
  unfold visB at h
  split at h
  · rename_i e; exact .inl e
  · rename_i e; exact .inr (.inl e)
  · rename_i e; exact .inr (.inr e)
  · exact absurd h Bool.false_ne_true
theorem nb {a : Bool} (h : (!a) = true) : a = false := by cases a <;> simp_all
theorem nmB_ok {X : Cx} {L : Lo} {W : WX} (P : PX G S T X L W ex) {i : Nat} {x : Str} (h : nmB S L i x = true) : X.N[i]? = some x ∧ Vis X.env.scope x ∧ (x == ("__debug__" : Str)) = false ∧ (x == ("__classdict__" : Str)) = false := by
  obtain ⟨h1, h⟩ := bb h
  obtain ⟨h2, h⟩ := bb h
  obtain ⟨h3, h4⟩ := bb h
  exact ⟨by rw [P.nm]; exact of_decide_eq_true h1, visB_ok P.esc h2, nb h3, nb h4⟩
theorem glB_ok {X : Cx} {L : Lo} {W : WX} (P : PX G S T X L W ex) {x : Str} (h : glB L x = true) : Gl X x ∧ (x == ("__debug__" : Str)) = false := by
  obtain ⟨h1, h2⟩ := bb h
  refine ⟨?_, nb h2⟩
  show X.env.kindOf x = some .globalImplicit
  unfold Env.kindOf
  rw [P.esc]
  split at h1
  · rename_i e; exact e
  · exact absurd h1 Bool.false_ne_true
theorem locB_ok {X : Cx} {L : Lo} {W : WX} (P : PX G S T X L W ex) {x : Str} (h : locB L x = true) : Loc X.env.scope x ∧ (X.fn x = true ∨ X.env.scope.names.lookup x = some .local) := by
  rw [P.esc, P.fnE]
  unfold locB at h
  split at h
  · rename_i e; exact ⟨.inl e, .inr e⟩
  · rename_i e; exact ⟨.inr e, .inl h⟩
  · exact absurd h Bool.false_ne_true
mutual
theorem snd_t : ∀ (g : Tg) (e : Expr) (X : Cx) (L : Lo) (W : WX), chkT S L g e = true → PX G S T X L W ex → PG X e (tG G ex A₀ H₀ g)
  | .n i, e, X, L, W, h, P => by
    rw [chkT.eq_def] at h
    dsimp only at h
    split at h
    · obtain ⟨h1, h2⟩ := bb h
      obtain ⟨k1, k2⟩ := locB_ok P h2
      exact sg_n P (by rw [P.nm]; exact of_decide_eq_true h1) k1 k2
    · exact absurd h Bool.false_ne_true
  | .t gs, e, X, L, W, h, P => by
    rw [chkT.eq_def] at h
    dsimp only at h
    split at h
    · obtain ⟨h1, h⟩ := bb h
      obtain ⟨h2, h⟩ := bb h
      obtain ⟨h3, h4⟩ := bb h
      exact sg_tup P h1 (snd_ts gs _ X L W h4 P) (of_decide_eq_true h2) h3
    · exact absurd h Bool.false_ne_true
theorem snd_ts : ∀ (g : Tgs) (e : List Expr) (X : Cx) (L : Lo) (W : WX), chkTs S L g e = true → PX G S T X L W ex → PGs X e (tGs G ex A₀ H₀ g)
  | .nil, e, X, L, W, h, P => by
    rw [chkTs.eq_def] at h
    dsimp only at h
    cases e with
    | nil => exact sgs_nil
    | cons => exact absurd h Bool.false_ne_true
  | .cons g r, e, X, L, W, h, P => by
    rw [chkTs.eq_def] at h
    dsimp only at h
    split at h
    · obtain ⟨h1, h2⟩ := bb h
      refine sgs_cons (snd_t g _ X L W h1 P) (snd_ts r _ X L W h2 P) ?_
      cases g <;> rw [chkT.eq_def] at h1 <;> dsimp only at h1 <;> split at h1 <;> first
        | rfl
        | exact absurd h1 Bool.false_ne_true
    · exact absurd h Bool.false_ne_true
end
def isBoolE : Expr → Bool
  | .BoolOp _ _ _ => true
  | _ => false
/-- what is wanted of an expression -/
structure SE (G : Sg) (T : Tab) (ex : ExI) (A₀ : Addr → Prop) (H₀ : Hp) (X : Cx) (W : WX) (i : Ex) (e : Expr) : Prop where
  pe : PE X e (tD G T W ex A₀ H₀ i)
  pt : PT X e (tDB G T W ex A₀ H₀ i)
  pw : isBoolE e = true → PW X e (tDB G T W ex A₀ H₀ i)
def plainE : Expr → Bool
  | .UnaryOp .Not _ _ => false
  | .BoolOp _ _ _ => false
  | .IfExp _ _ _ _ => false
  | .Compare _ _ _ _ => false
  | _ => true
theorem plain_test {e : Expr} (h : plainE e = true) (env : PySem.Env) : ∀ whole, isTrue e env whole = (do let v ← whole; standAt e.pos; holding [v] (truthy v)) := fun w => by
  cases e <;> first
    | rfl
    | exact absurd h Bool.false_ne_true
    | (rename_i op _ _; cases op <;> first | rfl | exact absurd h Bool.false_ne_true)
theorem SE.val {X : Cx} {W : WX} {i : Ex} {e : Expr} (h : PE X e (tD G T W ex A₀ H₀ i)) (hp : plainE e = true) : SE G T ex A₀ H₀ X W i e :=
  ⟨h, st_val h (plain_test hp _), fun hb => by cases e <;> first | exact absurd hb Bool.false_ne_true | exact absurd hp Bool.false_ne_true⟩
theorem SE.tst {X : Cx} {W : WX} {i : Ex} {e : Expr} (h : PE X e (tD G T W ex A₀ H₀ i)) (h2 : PT X e (tDB G T W ex A₀ H₀ i)) (hp : isBoolE e = false) : SE G T ex A₀ H₀ X W i e :=
  ⟨h, h2, fun hb => by rw [hp] at hb; exact absurd hb Bool.false_ne_true⟩
theorem blk_ok {X : Cx} {L : Lo} {W : WX} (P : PX G S T X L W ex) {scope : Scope} {own : List Nat} (h : blkB S L.sc scope own = true) : BlkOk X.N X.env.scope scope (ownL S own) := by
  rw [P.nm, P.esc]
  exact blkB_ok h
theorem all_mem {ns own : List Nat} (h : (ns.all fun j => decide (j ∈ own)) = true) : ∀ j ∈ ns, j ∈ own := fun j hj => of_decide_eq_true (List.all_eq_true.mp h j hj)
theorem nsC_of : ∀ (cs : Cla) (rest : List Comprehension) (vs : List Nat) (L : Lo), chkC S L vs cs rest = true → nsC cs vs
  | .nil, _, _, _, _ => trivial
  | .cons own g it ifs r, gs, vs, L, h => by
    rw [chkC.eq_def] at h
    dsimp only at h
    split at h
    · obtain ⟨h1, h⟩ := bb h
      obtain ⟨h2, h⟩ := bb h
      obtain ⟨h3, h⟩ := bb h
      obtain ⟨h4, h⟩ := bb h
      obtain ⟨h5, h⟩ := bb h
      obtain ⟨h6, h7⟩ := bb h
      exact ⟨all_mem h1, all_mem h2, nsC_of r _ own L h7⟩
    · exact absurd h Bool.false_ne_true
theorem vsOf_of : ∀ {cs : Cla} {vs : List Nat}, nsC cs vs → ∀ i ∈ vsOf (specs G T ex A₀ H₀ cs), i ∈ vs
  | .nil, _, _, i, hi => nomatch hi
  | .cons own g it ifs r, vs, h, i, hi => h.1 i hi
mutual
theorem snd : ∀ (i : Ex) (e : Expr) (X : Cx) (L : Lo) (W : WX), chk S L i e = true → PX G S T X L W ex → FiOk G T → SE G T ex A₀ H₀ X W i e
  | .var i, e, X, L, W, h, P, F => by
    rw [chk.eq_def] at h
    dsimp only at h
    split at h
    · obtain ⟨h1, h2, h3, h4⟩ := nmB_ok P h
      exact .val (se_var h1 h2 h3 h4) rfl
    · exact absurd h Bool.false_ne_true
  | .cI i, e, X, L, W, h, P, F => by
    rw [chk.eq_def] at h
    dsimp only at h
    split at h
    · rw [of_decide_eq_true h]; exact .val se_int rfl
    · exact absurd h Bool.false_ne_true
  | .cB b, e, X, L, W, h, P, F => by
    rw [chk.eq_def] at h
    dsimp only at h
    split at h
    · rw [of_decide_eq_true h]; exact .val se_bl rfl
    · exact absurd h Bool.false_ne_true
  | .cN, e, X, L, W, h, P, F => by
    rw [chk.eq_def] at h
    dsimp only at h
    split at h
    · exact .val se_non rfl
    · exact absurd h Bool.false_ne_true
  | .cS s, e, X, L, W, h, P, F => by
    rw [chk.eq_def] at h
    dsimp only at h
    split at h
    · rw [of_decide_eq_true h]; exact .val se_str rfl
    · exact absurd h Bool.false_ne_true
  | .gI x i, e, X, L, W, h, P, F => by
    rw [chk.eq_def] at h
    dsimp only at h
    split at h
    · obtain ⟨h1, h⟩ := bb h
      obtain ⟨h2, h3⟩ := bb h
      cases of_decide_eq_true h1
      obtain ⟨t, ht⟩ := P.gi _ (of_decide_eq_true h3)
      obtain ⟨g1, g2⟩ := glB_ok P h2
      exact .val (se_gI g1 ht g2) rfl
    · exact absurd h Bool.false_ne_true
  | .gS x i, e, X, L, W, h, P, F => by
    rw [chk.eq_def] at h
    dsimp only at h
    split at h
    · obtain ⟨h1, h⟩ := bb h
      obtain ⟨h2, h3⟩ := bb h
      cases of_decide_eq_true h1
      obtain ⟨t, ht⟩ := P.gs _ (of_decide_eq_true h3)
      obtain ⟨g1, g2⟩ := glB_ok P h2
      exact .val (se_gS g1 ht g2) rfl
    · exact absurd h Bool.false_ne_true
  | .bin o a b, e, X, L, W, h, P, F => by
    rw [chk.eq_def] at h
    dsimp only at h
    split at h
    · obtain ⟨h1, h⟩ := bb h
      obtain ⟨h2, h3⟩ := bb h
      rw [opB_ok h1]
      exact .val (se_bin P (snd a _ X L W h2 P F).pe (snd b _ X L W h3 P F).pe) rfl
    · exact absurd h Bool.false_ne_true
  | .neg a, e, X, L, W, h, P, F => by
    rw [chk.eq_def] at h
    dsimp only at h
    split at h
    · exact .val (se_neg (snd a _ X L W h P F).pe) rfl
    · exact absurd h Bool.false_ne_true
  | .cmp o a b, e, X, L, W, h, P, F => by
    rw [chk.eq_def] at h
    dsimp only at h
    split at h
    · obtain ⟨h1, h⟩ := bb h
      obtain ⟨h0, h⟩ := bb h
      obtain ⟨h2, h3⟩ := bb h
      have e := cmpB_ok h1
      subst e
      exact .tst (se_cmp P (snd a _ X L W h2 P F).pe (snd b _ X L W h3 P F).pe (nb h0)) (st_cmp P (snd a _ X L W h2 P F).pe (snd b _ X L W h3 P F).pe (nb h0)) rfl
    · exact absurd h Bool.false_ne_true
  | .cmp2 o o' a b c, e, X, L, W, h, P, F => by
    rw [chk.eq_def] at h
    dsimp only at h
    split at h
    · obtain ⟨h1, h⟩ := bb h
      obtain ⟨h2, h⟩ := bb h
      obtain ⟨h0, h⟩ := bb h
      obtain ⟨h3, h⟩ := bb h
      obtain ⟨h4, h5⟩ := bb h
      have e := cmpB_ok h1
      have e' := cmpB_ok h2
      subst e e'
      exact .tst (se_cmp2 P (snd a _ X L W h3 P F).pe (snd b _ X L W h4 P F).pe (snd c _ X L W h5 P F).pe (nb h0)) (st_cmp2 P (snd a _ X L W h3 P F).pe (snd b _ X L W h4 P F).pe (snd c _ X L W h5 P F).pe (nb h0)) rfl
    · exact absurd h Bool.false_ne_true
  | .cmp3 o o' o2 a b c d, e, X, L, W, h, P, F => by
    rw [chk.eq_def] at h
    dsimp only at h
    split at h
    · obtain ⟨h1, h⟩ := bb h
      obtain ⟨h2, h⟩ := bb h
      obtain ⟨h7, h⟩ := bb h
      obtain ⟨h0, h⟩ := bb h
      obtain ⟨h3, h⟩ := bb h
      obtain ⟨h4, h⟩ := bb h
      obtain ⟨h5, h6⟩ := bb h
      have e := cmpB_ok h1
      have e' := cmpB_ok h2
      have e2 := cmpB_ok h7
      subst e e' e2
      exact .tst (se_cmp3 P (snd a _ X L W h3 P F).pe (snd b _ X L W h4 P F).pe (snd c _ X L W h5 P F).pe (snd d _ X L W h6 P F).pe (nb h0)) (st_cmp3 P (snd a _ X L W h3 P F).pe (snd b _ X L W h4 P F).pe (snd c _ X L W h5 P F).pe (snd d _ X L W h6 P F).pe (nb h0)) rfl
    · exact absurd h Bool.false_ne_true
  | .isN a, e, X, L, W, h, P, F => by
    rw [chk.eq_def] at h
    dsimp only at h
    split at h
    · exact .tst (se_isN (snd a _ X L W h P F).pe) (st_isN (snd a _ X L W h P F).pe) rfl
    · exact absurd h Bool.false_ne_true
  | .notN a, e, X, L, W, h, P, F => by
    rw [chk.eq_def] at h
    dsimp only at h
    split at h
    · exact .tst (se_notN (snd a _ X L W h P F).pe) (st_notN (snd a _ X L W h P F).pe) rfl
    · exact absurd h Bool.false_ne_true
  | .and a b, e, X, L, W, h, P, F => by
    rw [chk.eq_def] at h
    dsimp only at h
    split at h
    · obtain ⟨h1, h2⟩ := bb h
      have A := snd a _ X L W h1 P F
      have B := snd b _ X L W h2 P F
      exact ⟨se_and A.pe (pe_one B.pe), (sw_and A.pt (pw_and1 B.pt)).pt, fun _ => sw_and A.pt (pw_and1 B.pt)⟩
    · obtain ⟨h1, h2⟩ := bb h
      have A := snd a _ X L W h1 P F
      have B := snd b _ X L W h2 P F
      exact ⟨se_and A.pe B.pe, (sw_and A.pt (B.pw rfl)).pt, fun _ => sw_and A.pt (B.pw rfl)⟩
    · exact absurd h Bool.false_ne_true
  | .or a b, e, X, L, W, h, P, F => by
    rw [chk.eq_def] at h
    dsimp only at h
    split at h
    · obtain ⟨h1, h2⟩ := bb h
      have A := snd a _ X L W h1 P F
      have B := snd b _ X L W h2 P F
      exact ⟨se_or A.pe (pe_one B.pe), (sw_or A.pt (pw_or1 B.pt)).pt, fun _ => sw_or A.pt (pw_or1 B.pt)⟩
    · obtain ⟨h1, h2⟩ := bb h
      have A := snd a _ X L W h1 P F
      have B := snd b _ X L W h2 P F
      exact ⟨se_or A.pe B.pe, (sw_or A.pt (B.pw rfl)).pt, fun _ => sw_or A.pt (B.pw rfl)⟩
    · exact absurd h Bool.false_ne_true
  | .not a, e, X, L, W, h, P, F => by
    rw [chk.eq_def] at h
    dsimp only at h
    split at h
    · exact .tst (se_not (snd a _ X L W h P F).pe) (st_not (snd a _ X L W h P F).pt) rfl
    · exact absurd h Bool.false_ne_true
  | .ite c a b, e, X, L, W, h, P, F => by
    rw [chk.eq_def] at h
    dsimp only at h
    split at h
    · obtain ⟨h1, h⟩ := bb h
      obtain ⟨h2, h3⟩ := bb h
      exact .tst (se_ite (snd c _ X L W h1 P F).pt (snd a _ X L W h2 P F).pe (snd b _ X L W h3 P F).pe) (st_ite (snd c _ X L W h1 P F).pt (snd a _ X L W h2 P F).pt (snd b _ X L W h3 P F).pt) rfl
    · exact absurd h Bool.false_ne_true
  | .tup es, e, X, L, W, h, P, F => by
    rw [chk.eq_def] at h
    dsimp only at h
    split at h
    · exact .val (se_tup (snds es _ X L W h P F)) rfl
    · exact absurd h Bool.false_ne_true
  | .lst es, e, X, L, W, h, P, F => by
    rw [chk.eq_def] at h
    dsimp only at h
    split at h
    · exact .val (se_lst (snds es _ X L W h P F)) rfl
    · exact absurd h Bool.false_ne_true
  | .newD t, e, X, L, W, h, P, F => by
    rw [chk.eq_def] at h
    dsimp only at h
    split at h
    · cases t with
      | true => exact .val se_newT rfl
      | false => exact .val se_newK rfl
    · exact absurd h Bool.false_ne_true
  | .idx a b, e, X, L, W, h, P, F => by
    rw [chk.eq_def] at h
    dsimp only at h
    split at h
    · obtain ⟨h1, h⟩ := bb h
      obtain ⟨h2, h3⟩ := bb h
      exact .val (se_idx P (snd a _ X L W h2 P F).pe (snd b _ X L W h3 P F).pe h1) rfl
    · exact absurd h Bool.false_ne_true
  | .slL a l, e, X, L, W, h, P, F => by
    rw [chk.eq_def] at h
    dsimp only at h
    split at h
    · obtain ⟨h2, h3⟩ := bb h
      exact .val (se_slL (snd a _ X L W h2 P F).pe (snd l _ X L W h3 P F).pe) rfl
    · exact absurd h Bool.false_ne_true
  | .slU a l, e, X, L, W, h, P, F => by
    rw [chk.eq_def] at h
    dsimp only at h
    split at h
    · obtain ⟨h2, h3⟩ := bb h
      exact .val (se_slU (snd a _ X L W h2 P F).pe (snd l _ X L W h3 P F).pe) rfl
    · exact absurd h Bool.false_ne_true
  | .slB a l u, e, X, L, W, h, P, F => by
    rw [chk.eq_def] at h
    dsimp only at h
    split at h
    · obtain ⟨h2, h⟩ := bb h
      obtain ⟨h3, h4⟩ := bb h
      exact .val (se_slB (snd a _ X L W h2 P F).pe (snd l _ X L W h3 P F).pe (snd u _ X L W h4 P F).pe) rfl
    · exact absurd h Bool.false_ne_true
  | .fld a y, e, X, L, W, h, P, F => by
    rw [chk.eq_def] at h
    dsimp only at h
    split at h
    · obtain ⟨h1, h⟩ := bb h
      obtain ⟨h2, h⟩ := bb h
      obtain ⟨h4, h3⟩ := bb h
      rw [← of_decide_eq_true h1]
      exact .val (se_fld P F (snd a _ X L W h3 P F).pe h2 (of_decide_eq_true h4)) rfl
    · exact absurd h Bool.false_ne_true
  | .call f es, e, X, L, W, h, P, F => by
    rw [chk.eq_def] at h
    dsimp only at h
    split at h
    · rename_i x p xs p2
      obtain ⟨hc, h⟩ := bb h
      obtain ⟨h1, h⟩ := bb h
      obtain ⟨h2, h⟩ := bb h
      obtain ⟨h3, h4⟩ := bb h
      obtain ⟨g1, g2⟩ := glB_ok P h2
      cases xs with
      | nil =>
        cases es with
        | nil => exact .val (se_call0 P hc (of_decide_eq_true h1) g1 g2) rfl
        | cons i r => rw [chks.eq_def] at h4; exact absurd h4 Bool.false_ne_true
        | star i r => rw [chks.eq_def] at h4; exact absurd h4 Bool.false_ne_true
      | cons a xs => exact .val (se_call P hc (of_decide_eq_true h1) g1 g2 h3 (snds es _ X L W h4 P F)) rfl
    · exact absurd h Bool.false_ne_true
  | .callQ f es, e, X, L, W, h, P, F => by
    rw [chk.eq_def] at h
    dsimp only at h
    split at h
    · rename_i x p a xs p2
      obtain ⟨hc, h⟩ := bb h
      obtain ⟨hq, h⟩ := bb h
      obtain ⟨h1, h⟩ := bb h
      obtain ⟨h2, h⟩ := bb h
      obtain ⟨h3, h4⟩ := bb h
      obtain ⟨g1, g2⟩ := glB_ok P h2
      exact .val (se_callQ P (nb hc) (of_decide_eq_true hq) (of_decide_eq_true h1) g1 g2 h3 (snds es _ X L W h4 P F)) rfl
    · exact absurd h Bool.false_ne_true
  | .callO f es, e, X, L, W, h, P, F => by
    rw [chk.eq_def] at h
    dsimp only at h
    split at h
    · rename_i x p a xs p2
      obtain ⟨hc, h⟩ := bb h
      obtain ⟨h1, h⟩ := bb h
      obtain ⟨h2, h⟩ := bb h
      obtain ⟨h3, h4⟩ := bb h
      obtain ⟨g1, g2⟩ := glB_ok P h2
      exact .val (se_callO P hc (of_decide_eq_true h1) g1 g2 h3 (snds es _ X L W h4 P F)) rfl
    · exact absurd h Bool.false_ne_true
  | .mk c f es, e, X, L, W, h, P, F => by
    rw [chk.eq_def] at h
    dsimp only at h
    split at h
    · obtain ⟨hc, h⟩ := bb h
      obtain ⟨h1, h⟩ := bb h
      obtain ⟨h0, h⟩ := bb h
      obtain ⟨h2, h⟩ := bb h
      obtain ⟨h3, h4⟩ := bb h
      obtain ⟨g1, g2⟩ := glB_ok P h2
      exact .val (se_mk P hc (of_decide_eq_true h1) (P.ini _ _ (of_decide_eq_true h0)) g1 g2 h3 (snds es _ X L W h4 P F)) rfl
    · exact absurd h Bool.false_ne_true
  | .bi b es, e, X, L, W, h, P, F => by
    rw [chk.eq_def] at h
    dsimp only at h
    split at h
    · obtain ⟨hc, h⟩ := bb h
      obtain ⟨h1, h⟩ := bb h
      obtain ⟨h0, h⟩ := bb h
      obtain ⟨h2, h⟩ := bb h
      obtain ⟨h3, h4⟩ := bb h
      obtain ⟨g1, g2⟩ := glB_ok P h2
      have e := of_decide_eq_true h1
      subst e
      exact .val (se_bi P hc (of_decide_eq_true h0) g1 h3 (snds es _ X L W h4 P F)) rfl
    · exact absurd h Bool.false_ne_true
  | .isi a t, e, X, L, W, h, P, F => by
    rw [chk.eq_def] at h
    dsimp only at h
    split at h
    · obtain ⟨h1, h⟩ := bb h
      obtain ⟨h2, h⟩ := bb h
      obtain ⟨h3, h⟩ := bb h
      obtain ⟨h4, h⟩ := bb h
      obtain ⟨h5, h⟩ := bb h
      obtain ⟨h6, h⟩ := bb h
      obtain ⟨h7, h8⟩ := bb h
      have e := of_decide_eq_true h1
      have e' := of_decide_eq_true h2
      subst e e'
      exact .val (se_isi P (of_decide_eq_true h4) (glB_ok P h6).1 (of_decide_eq_true h3) (glB_ok P h5).1 h7 (snd a _ X L W h8 P F).pe) rfl
    · exact absurd h Bool.false_ne_true
  | .isC a c, e, X, L, W, h, P, F => by
    rw [chk.eq_def] at h
    dsimp only at h
    exact absurd h Bool.false_ne_true
  | .isE i c, e, X, L, W, h, P, F => by
    rw [chk.eq_def] at h
    dsimp only at h
    split at h
    · obtain ⟨h0, h⟩ := bb h
      obtain ⟨h1, h⟩ := bb h
      obtain ⟨h3, h⟩ := bb h
      obtain ⟨h5, h⟩ := bb h
      obtain ⟨h6, h⟩ := bb h
      obtain ⟨h7, h8⟩ := bb h
      have e := of_decide_eq_true h1
      subst e
      obtain ⟨k1, k2, k3, k4⟩ := nmB_ok P h7
      rcases Bool.or_eq_true_iff.mp h8 with h8 | h8
      · exact .val (se_isE P (nb h0) k1 k2 k3 k4 (of_decide_eq_true h8) (glB_ok P h6).1 (glB_ok P h6).2 (of_decide_eq_true h3) (glB_ok P h5).1) rfl
      · obtain ⟨h9, h8⟩ := bb h8
        obtain ⟨h10, h11⟩ := bb h8
        have e9 := of_decide_eq_true h9
        have e10 := of_decide_eq_true h10
        subst e9 e10
        exact .val (se_isV P (nb h0) k1 k2 k3 k4 (of_decide_eq_true h11) (glB_ok P h6).1 (of_decide_eq_true h3) (glB_ok P h5).1) rfl
    · exact absurd h Bool.false_ne_true
  | .fldE i c, e, X, L, W, h, P, F => by
    rw [chk.eq_def] at h
    dsimp only at h
    split at h
    · obtain ⟨h0, h⟩ := bb h
      obtain ⟨h1, h⟩ := bb h
      obtain ⟨h2, h3⟩ := bb h
      obtain ⟨k1, k2, k3, k4⟩ := nmB_ok P h1
      exact .val (se_fldE P (nb h0) k1 k2 k3 k4 (of_decide_eq_true h2) (of_decide_eq_true h3)) rfl
    · exact absurd h Bool.false_ne_true
  | .lR (.r1 a), e, X, L, W, h, P, F => by
    rw [chk.eq_def] at h
    dsimp only at h
    split at h
    · obtain ⟨hc, h⟩ := bb h
      obtain ⟨h1, h⟩ := bb h
      obtain ⟨h2, h⟩ := bb h
      obtain ⟨h3, h⟩ := bb h
      obtain ⟨h4, h⟩ := bb h
      obtain ⟨h5, h⟩ := bb h
      obtain ⟨h6, h⟩ := bb h
      obtain ⟨h7, h8⟩ := bb h
      have e := of_decide_eq_true h1
      have e' := of_decide_eq_true h3
      subst e e'
      exact .val (se_lR1 P hc (of_decide_eq_true h2) (glB_ok P h5).1 (of_decide_eq_true h4) (glB_ok P h6).1 h7 (snd a _ X L W h8 P F).pe) rfl
    · exact absurd h Bool.false_ne_true
  | .lR (.e _), e, X, L, W, h, P, F => by
    rw [chk.eq_def] at h
    dsimp only at h
    exact absurd h Bool.false_ne_true
  | .lR (.r2 _ _), e, X, L, W, h, P, F => by
    rw [chk.eq_def] at h
    dsimp only at h
    exact absurd h Bool.false_ne_true
  | .lR (.en _), e, X, L, W, h, P, F => by
    rw [chk.eq_def] at h
    dsimp only at h
    exact absurd h Bool.false_ne_true
  | .lR (.zp _ _), e, X, L, W, h, P, F => by
    rw [chk.eq_def] at h
    dsimp only at h
    exact absurd h Bool.false_ne_true
  | .tR (.r1 a), e, X, L, W, h, P, F => by
    rw [chk.eq_def] at h
    dsimp only at h
    split at h
    · obtain ⟨hc, h⟩ := bb h
      obtain ⟨h1, h⟩ := bb h
      obtain ⟨h2, h⟩ := bb h
      obtain ⟨h3, h⟩ := bb h
      obtain ⟨h4, h⟩ := bb h
      obtain ⟨h5, h⟩ := bb h
      obtain ⟨h6, h⟩ := bb h
      obtain ⟨h7, h8⟩ := bb h
      have e := of_decide_eq_true h1
      have e' := of_decide_eq_true h3
      subst e e'
      exact .val (se_tR1 P hc (of_decide_eq_true h2) (glB_ok P h5).1 (of_decide_eq_true h4) (glB_ok P h6).1 h7 (snd a _ X L W h8 P F).pe) rfl
    · exact absurd h Bool.false_ne_true
  | .tR (.e _), e, X, L, W, h, P, F => by
    rw [chk.eq_def] at h
    dsimp only at h
    exact absurd h Bool.false_ne_true
  | .tR (.r2 _ _), e, X, L, W, h, P, F => by
    rw [chk.eq_def] at h
    dsimp only at h
    exact absurd h Bool.false_ne_true
  | .tR (.en _), e, X, L, W, h, P, F => by
    rw [chk.eq_def] at h
    dsimp only at h
    exact absurd h Bool.false_ne_true
  | .tR (.zp _ _), e, X, L, W, h, P, F => by
    rw [chk.eq_def] at h
    dsimp only at h
    exact absurd h Bool.false_ne_true
  | .lc own g it ifs e, x, X, L, W, h, P, F => by
    rw [chk.eq_def] at h
    dsimp only at h
    split at h
    · rename_i elt tg iter xifs scope pos
      obtain ⟨hc, h⟩ := bb h
      obtain ⟨h1, h⟩ := bb h
      obtain ⟨h2, h⟩ := bb h
      obtain ⟨h3, h⟩ := bb h
      obtain ⟨h4, h⟩ := bb h
      obtain ⟨h5, h⟩ := bb h
      obtain ⟨h6, h7⟩ := bb h
      have z := se_lc (pos := pos) (own := ownL S own) (g := g) P hc (sndI it _ _ X L W h3 P F) (blk_ok P h1) (fun s H C cl fp => snd_t g _ _ _ _ h2 (P.blk hc s H _ C cl fp)) (fun s H C cl fp => sndF ifs _ _ _ _ h4 (P.blk hc s H _ C cl fp) F)
        (fun s H C cl fp => (snd e _ _ _ _ h5 (P.blk hc s H _ C cl fp) F).pe) (fun x => folded_no h6 _ x) (by rw [ownL_snd]; exact all_mem h7)
      rw [ownL_snd] at z
      exact .val z rfl
    · exact absurd h Bool.false_ne_true
  | .lc2 own own2 g it ifs g2 it2 ifs2 e, x, X, L, W, h, P, F => by
    rw [chk.eq_def] at h
    dsimp only at h
    split at h
    · rename_i elt tg iter xifs tg2 iter2 xifs2 scope pos
      obtain ⟨hc, h⟩ := bb h
      obtain ⟨h1, h⟩ := bb h
      obtain ⟨h2, h⟩ := bb h
      obtain ⟨h3, h⟩ := bb h
      obtain ⟨h4, h⟩ := bb h
      obtain ⟨h5, h⟩ := bb h
      obtain ⟨h6, h⟩ := bb h
      obtain ⟨h7, h⟩ := bb h
      obtain ⟨h8, h⟩ := bb h
      obtain ⟨h9, h⟩ := bb h
      obtain ⟨h10, h⟩ := bb h
      obtain ⟨h11, h⟩ := bb h
      obtain ⟨h12, h13⟩ := bb h
      have z := se_lc2 (pos := pos) (own := ownL S own) (vs1 := own2) (g := g) (g2 := g2) P hc (sndI it _ _ X L W h3 P F) (blk_ok P h1) (by rw [ownL_snd]; exact all_mem h13) (fun s H C cl fp => snd_t g _ _ _ _ h2 (P.blk hc s H _ C cl fp)) (fun s H C cl fp => sndF ifs _ _ _ _ h4 (P.blk hc s H _ C cl fp) F)
        (fun s H C cl fp => sndI it2 _ _ _ _ _ h9 (P.blk hc s H _ C cl fp) F) (fun s H C cl fp => snd_t g2 _ _ _ _ h8 (P.blk hc s H _ C cl fp)) (fun s H C cl fp => sndF ifs2 _ _ _ _ h10 (P.blk hc s H _ C cl fp) F)
        (fun s H C cl fp => (snd e _ _ _ _ h5 (P.blk hc s H _ C cl fp) F).pe) (fun x => folded_no h6 _ x) (fun env x => folded_no h11 env x) (by rw [ownL_snd]; exact all_mem h7) (all_mem h12)
      rw [ownL_snd] at z
      exact .val z rfl
    · exact absurd h Bool.false_ne_true
  | .dc own g it ifs k v, x, X, L, W, h, P, F => by
    rw [chk.eq_def] at h
    dsimp only at h
    split at h
    · rename_i kx vx tg iter xifs scope pos
      obtain ⟨hc, h⟩ := bb h
      obtain ⟨h1, h⟩ := bb h
      obtain ⟨h2, h⟩ := bb h
      obtain ⟨h3, h⟩ := bb h
      obtain ⟨h4, h⟩ := bb h
      obtain ⟨h5, h⟩ := bb h
      obtain ⟨h6, h⟩ := bb h
      obtain ⟨h7, h8⟩ := bb h
      have z := se_dc (pos := pos) (own := ownL S own) (g := g) P hc (sndI it _ _ X L W h3 P F) (blk_ok P h1) (fun s H C cl fp => snd_t g _ _ _ _ h2 (P.blk hc s H _ C cl fp)) (fun s H C cl fp => sndF ifs _ _ _ _ h4 (P.blk hc s H _ C cl fp) F)
        (fun s H C cl fp => (snd k _ _ _ _ h5 (P.blk hc s H _ C cl fp) F).pe) (fun s H C cl fp => (snd v _ _ _ _ h6 (P.blk hc s H _ C cl fp) F).pe) (fun x => folded_no h7 _ x) (by rw [ownL_snd]; exact all_mem h8)
      rw [ownL_snd] at z
      exact .val z rfl
    · exact absurd h Bool.false_ne_true
  | .lcN own g it ifs cs e, x, X, L, W, h, P, F => by
    rw [chk.eq_def] at h
    dsimp only at h
    split at h
    · rename_i elt tg iter xifs rest scope pos
      obtain ⟨hc, h⟩ := bb h
      obtain ⟨h1, h⟩ := bb h
      obtain ⟨h2, h⟩ := bb h
      obtain ⟨h3, h⟩ := bb h
      obtain ⟨h4, h⟩ := bb h
      obtain ⟨h5, h⟩ := bb h
      obtain ⟨h7, h⟩ := bb h
      obtain ⟨h8, h9⟩ := bb h
      have hns := nsC_of cs rest own _ h9
      have z := se_LN (pos := pos) (own := ownL S own) (g := g) (cs := cs) P hc (sndI it _ _ X L W h3 P F) (blk_ok P h1) (by rw [ownL_snd]; exact vsOf_of hns) (fun s H C cl fp => snd_t g _ _ _ _ h2 (P.blk hc s H _ C cl fp)) (fun s H C cl fp => sndF ifs _ _ _ _ h4 (P.blk hc s H _ C cl fp) F)
        (fun s H C cl fp => sndC cs rest own _ _ (⟨tg, iter, xifs, 0⟩ :: rest) 1 h9 (P.blk hc s H _ C cl fp) F (fun i => by rw [Nat.add_comm]; rfl))
        (fun s H C cl fp => (snd e _ _ _ _ h5 (P.blk hc s H _ C cl fp) F).pe) (fun x => folded_no h7 _ x) (by rw [ownL_snd]; exact all_mem h8) (by rw [ownL_snd]; exact hns)
      rw [ownL_snd] at z
      exact .val z rfl
    · exact absurd h Bool.false_ne_true
  | .dcN own g it ifs cs k v, x, X, L, W, h, P, F => by
    rw [chk.eq_def] at h
    dsimp only at h
    split at h
    · rename_i kx vx tg iter xifs rest scope pos
      obtain ⟨hc, h⟩ := bb h
      obtain ⟨h1, h⟩ := bb h
      obtain ⟨h2, h⟩ := bb h
      obtain ⟨h3, h⟩ := bb h
      obtain ⟨h4, h⟩ := bb h
      obtain ⟨h5, h⟩ := bb h
      obtain ⟨h6, h⟩ := bb h
      obtain ⟨h7, h⟩ := bb h
      obtain ⟨h8, h9⟩ := bb h
      have hns := nsC_of cs rest own _ h9
      have z := se_DN (pos := pos) (own := ownL S own) (g := g) (cs := cs) P hc (sndI it _ _ X L W h3 P F) (blk_ok P h1) (by rw [ownL_snd]; exact vsOf_of hns) (fun s H C cl fp => snd_t g _ _ _ _ h2 (P.blk hc s H _ C cl fp)) (fun s H C cl fp => sndF ifs _ _ _ _ h4 (P.blk hc s H _ C cl fp) F)
        (fun s H C cl fp => sndC cs rest own _ _ (⟨tg, iter, xifs, 0⟩ :: rest) 1 h9 (P.blk hc s H _ C cl fp) F (fun i => by rw [Nat.add_comm]; rfl))
        (fun s H C cl fp => (snd k _ _ _ _ h5 (P.blk hc s H _ C cl fp) F).pe) (fun s H C cl fp => (snd v _ _ _ _ h6 (P.blk hc s H _ C cl fp) F).pe) (fun x => folded_no h7 _ x) (by rw [ownL_snd]; exact all_mem h8) (by rw [ownL_snd]; exact hns)
      rw [ownL_snd] at z
      exact .val z rfl
    · exact absurd h Bool.false_ne_true
  | .dC a, e, X, L, W, h, P, F => by
    rw [chk.eq_def] at h
    dsimp only at h
    split at h
    · obtain ⟨h1, h⟩ := bb h
      obtain ⟨h2, h⟩ := bb h
      obtain ⟨h3, h⟩ := bb h
      obtain ⟨h4, h5⟩ := bb h
      have e := of_decide_eq_true h1
      subst e
      exact .val (se_dC P (of_decide_eq_true h2) (glB_ok P h3).1 h4 (snd a _ X L W h5 P F).pe) rfl
    · exact absurd h Bool.false_ne_true
  | .dZ a b, e, X, L, W, h, P, F => by
    rw [chk.eq_def] at h
    dsimp only at h
    split at h
    · obtain ⟨hc, h⟩ := bb h
      obtain ⟨h1, h⟩ := bb h
      obtain ⟨h2, h⟩ := bb h
      obtain ⟨h3, h⟩ := bb h
      obtain ⟨h4, h⟩ := bb h
      obtain ⟨h5, h⟩ := bb h
      obtain ⟨h6, h⟩ := bb h
      obtain ⟨h7, h⟩ := bb h
      obtain ⟨h8, h⟩ := bb h
      obtain ⟨h9, h10⟩ := bb h
      have e := of_decide_eq_true h1
      have e' := of_decide_eq_true h3
      subst e e'
      exact .val (se_dZ P hc (of_decide_eq_true h2) (glB_ok P h5).1 (of_decide_eq_true h4) (glB_ok P h6).1 h7 h8 (snd a _ X L W h9 P F).pe (snd b _ X L W h10 P F).pe) rfl
    · exact absurd h Bool.false_ne_true
theorem sndC : ∀ (cs : Cla) (rest : List Comprehension) (vs : List Nat) (X : Cx) (L : Lo) (gens : List Comprehension) (d : Nat), chkC S L vs cs rest = true → PX G S T X L noW ex → FiOk G T → (∀ i, gens[d + i]? = rest[i]?) → Deep X gens d (specs G T ex A₀ H₀ cs)
  | .nil, rest, vs, X, L, gens, d, h, P, F, hr => by
    rw [chkC.eq_def] at h
    dsimp only at h
    cases rest with
    | nil => exact hr 0
    | cons => exact absurd h Bool.false_ne_true
  | .cons own g it ifs r, rest, vs, X, L, gens, d, h, P, F, hr => by
    have hns := nsC_of (.cons own g it ifs r) rest vs L h
    rw [chkC.eq_def] at h
    dsimp only at h
    split at h
    · rename_i tg iter xifs rest
      obtain ⟨h1, h⟩ := bb h
      obtain ⟨h2, h⟩ := bb h
      obtain ⟨h3, h⟩ := bb h
      obtain ⟨h4, h⟩ := bb h
      obtain ⟨h5, h⟩ := bb h
      obtain ⟨h6, h7⟩ := bb h
      exact ⟨tg, iter, xifs, hr 0, sndI it _ _ X L noW h4 P F, snd_t g _ _ _ _ h3 P, sndF ifs _ _ _ _ h5 P F, fun x => folded_no h6 _ x, vsOf_of hns.2.2, sndC r rest own X L gens (d + 1) h7 P F (fun i => by rw [Nat.add_right_comm, Nat.add_assoc]; exact hr (i + 1))⟩
    · exact absurd h Bool.false_ne_true
theorem snds : ∀ (es : Exs) (e : List Expr) (X : Cx) (L : Lo) (W : WX), chks S L es e = true → PX G S T X L W ex → FiOk G T → PA X e (tDs G T W ex A₀ H₀ es)
  | .nil, e, X, L, W, h, P, F => by
    rw [chks.eq_def] at h
    dsimp only at h
    cases e with
    | nil => exact sa_nil
    | cons => exact absurd h Bool.false_ne_true
  | .cons i r, e, X, L, W, h, P, F => by
    rw [chks.eq_def] at h
    dsimp only at h
    split at h
    · obtain ⟨h1, h⟩ := bb h
      obtain ⟨h2, h3⟩ := bb h
      exact sa_cons (snd i _ X L W h2 P F).pe (snds r _ X L W h3 P F) h1
    · exact absurd h Bool.false_ne_true
  | .star i r, e, X, L, W, h, P, F => by
    rw [chks.eq_def] at h
    dsimp only at h
    split at h
    · obtain ⟨h2, h3⟩ := bb h
      exact sa_star P.hG (snd i _ X L W h2 P F).pe (snds r _ X L W h3 P F)
    · exact absurd h Bool.false_ne_true
theorem sndF : ∀ (es : Exs) (e : List Expr) (X : Cx) (L : Lo) (W : WX), chkF S L es e = true → PX G S T X L W ex → FiOk G T → PTs X e (tAll G T W ex A₀ H₀ es)
  | .nil, e, X, L, W, h, P, F => by
    rw [chkF.eq_def] at h
    dsimp only at h
    cases e with
    | nil => exact sts_nil
    | cons => exact absurd h Bool.false_ne_true
  | .cons i r, e, X, L, W, h, P, F => by
    rw [chkF.eq_def] at h
    dsimp only at h
    split at h
    · exact sts_one (snd i _ X L W h P F).pt
    · exact absurd h Bool.false_ne_true
  | .star i r, e, X, L, W, h, P, F => by
    rw [chkF.eq_def] at h
    dsimp only at h
    exact absurd h Bool.false_ne_true
theorem sndI : ∀ (it : It) (e tg : Expr) (X : Cx) (L : Lo) (W : WX), chkI S L it tg e = true → PX G S T X L W ex → FiOk G T → PI X tg e (tI G T W ex A₀ H₀ it)
  | .e a, e, tg, X, L, W, h, P, F => by
    rw [chkI.eq_def] at h
    dsimp only at h
    exact si_e P.hG (snd a _ X L W h P F).pe
  | .r1 a, e, tg, X, L, W, h, P, F => by
    rw [chkI.eq_def] at h
    dsimp only at h
    split at h
    · obtain ⟨h1, h⟩ := bb h
      obtain ⟨h2, h⟩ := bb h
      obtain ⟨h3, h⟩ := bb h
      obtain ⟨h4, h5⟩ := bb h
      have e := of_decide_eq_true h1
      subst e
      exact si_r1 P (of_decide_eq_true h2) (glB_ok P h3).1 h4 (snd a _ X L W h5 P F).pe
    · exact absurd h Bool.false_ne_true
  | .r2 a b, e, tg, X, L, W, h, P, F => by
    rw [chkI.eq_def] at h
    dsimp only at h
    split at h
    · obtain ⟨h1, h⟩ := bb h
      obtain ⟨h2, h⟩ := bb h
      obtain ⟨h3, h⟩ := bb h
      obtain ⟨h4, h⟩ := bb h
      obtain ⟨h5, h⟩ := bb h
      obtain ⟨h6, h7⟩ := bb h
      have e := of_decide_eq_true h1
      subst e
      exact si_r2 P (of_decide_eq_true h2) (glB_ok P h3).1 h4 h5 (snd a _ X L W h6 P F).pe (snd b _ X L W h7 P F).pe
    · exact absurd h Bool.false_ne_true
  | .en a, e, tg, X, L, W, h, P, F => by
    rw [chkI.eq_def] at h
    dsimp only at h
    split at h
    · obtain ⟨h1, h⟩ := bb h
      obtain ⟨h2, h⟩ := bb h
      obtain ⟨h3, h⟩ := bb h
      obtain ⟨h4, h5⟩ := bb h
      have e := of_decide_eq_true h1
      subst e
      exact si_en P (of_decide_eq_true h2) (glB_ok P h3).1 h4 (snd a _ X L W h5 P F).pe
    · exact absurd h Bool.false_ne_true
  | .zp a b, e, tg, X, L, W, h, P, F => by
    rw [chkI.eq_def] at h
    dsimp only at h
    split at h
    · obtain ⟨h1, h⟩ := bb h
      obtain ⟨h2, h⟩ := bb h
      obtain ⟨h3, h⟩ := bb h
      obtain ⟨h4, h⟩ := bb h
      obtain ⟨h5, h⟩ := bb h
      obtain ⟨h6, h7⟩ := bb h
      have e := of_decide_eq_true h1
      subst e
      exact si_zp P (of_decide_eq_true h2) (glB_ok P h3).1 h4 h5 (snd a _ X L W h6 P F).pe (snd b _ X L W h7 P F).pe
    · exact absurd h Bool.false_ne_true
end
end
end PD
end

section
set_option Elab.async false
set_option linter.all false
set_option maxRecDepth 100000
set_option maxHeartbeats 4000000
/-! PD, part 16: statements against the text's own trees. -/
namespace PD
open PySem PySem.Spec PyProof.Rows L2
/-- a comprehension that is stored within -/
def swB (L : Lo) (e : Expr) (x : Str) (p : Pos) : Bool := match e with
  | .ListComp _ _ s pos => lkB (L.sc.names.lookup x) .local && (p.line == pos.line && !(s.names.any fun (n, k) => n == x && (k == .local || k == .cell)))
  | .DictComp _ _ _ s pos => lkB (L.sc.names.lookup x) .local && (p.line == pos.line && !(s.names.any fun (n, k) => n == x && (k == .local || k == .cell)))
  | _ => false
def isN (i : Ex) : Bool := match i with
  | .dcN _ _ _ _ _ _ _ => true
  | _ => false
def listC (L : Lo) (i : Ex) (e : Expr) (x : Str) (p : Pos) : Bool := match e with
  | .ListComp _ _ _ _ => true
  | .DictComp a b c d e => isN i || !swB L (.DictComp a b c d e) x p
  | _ => false
theorem kB_iff {a b : NameKind} : kB a b = (a == b) ∨ (kB a b = false) := by
  cases a <;> cases b <;> first
    | exact .inl rfl
    | exact .inr rfl
theorem lk_loc (o : Option NameKind) : lkB o .local = (o == some .local) := by
  cases o with
  | none => rfl
  | some k => cases k <;> rfl
/-- some target is no name of the frame's own -/
def cellN (sc : Scope) (t : Expr) : Bool := match t with
  | .Name x _ => !lkB (sc.names.lookup x) .local
  | _ => true
def cellT (sc : Scope) (ts : List Expr) : Bool := ts.any (cellN sc)
def swapF (env : PySem.Env) (line : Nat) (t : Expr) : Option Str := match t with
  | .Name id pos => if env.kindOf id == some .local && pos.line == line then some id else none
  | _ => none
theorem swapF_no {env : PySem.Env} {line : Nat} {t : Expr} (h : cellN env.scope t = true) : swapF env line t = none := by
  cases t with
  | Name x pos =>
    have h : (!lkB (env.scope.names.lookup x) .local) = true := h
    have : (env.kindOf x == some .local) = false := by
      have e : lkB (env.scope.names.lookup x) .local = (env.kindOf x == some .local) := by
        unfold Env.kindOf
        cases env.scope.names.lookup x with
        | none => rfl
        | some k => cases k <;> rfl
      rw [← e]
      simpa using h
    unfold swapF
    dsimp only
    rw [this]; rfl
  | _ => rfl
theorem fm_lt {α β : Type} {f : α → Option β} {p : α → Bool} (hp : ∀ a, p a = true → f a = none) : ∀ {l : List α}, l.any p = true → (l.filterMap f).length < l.length
  | [], h => absurd h Bool.false_ne_true
  | a :: l, h => by
    have le := List.length_filterMap_le f l
    rw [List.any_cons, Bool.or_eq_true] at h
    rw [List.length_cons]
    rcases h with h | h
    · rw [List.filterMap_cons, hp a h]
      exact Nat.lt_succ_of_le le
    · have ih := fm_lt hp h
      rw [List.filterMap_cons]
      split
      · omega
      · rw [List.length_cons]; omega
theorem swapped_cell {ts : List Expr} {n : Nat} {p : Pos} {e : Expr} {env : PySem.Env} (h : cellT env.scope ts = true) : swappedStores [.Tuple ts n p] e env = pure none := by
  cases e with
  | Tuple vs m q =>
    unfold swappedStores
    dsimp only
    split
    · rfl
    · split
      · rfl
      · have hl : (ts.filterMap (swapF env ((ts.head?.map (·.pos.line)).getD 0))).length < ts.length := fm_lt (fun a ha => swapF_no ha) h
        have hn : ((ts.filterMap (swapF env ((ts.head?.map (·.pos.line)).getD 0))).length != ts.length) = true := bne_iff_ne.mpr (Nat.ne_of_lt hl)
        refine if_pos ?_
        exact Bool.or_eq_true_iff.mpr (.inl hn)
  | _ => rfl
def sts1 (S : Sx) (L : Lo) : List Expr → Expr → Bool := fun _ _ => false
def parB (S : Sx) (L : Lo) (i j : Nat) (x y : Str) (px py : Pos) (ea eb : Expr) : Bool := decide (S.N[i]? = some x) && (decide (S.N[j]? = some y) && (decide (i ≠ j) && (decide (x ≠ y) && (lkB (L.sc.names.lookup x) .local && (lkB (L.sc.names.lookup y) .local && (decide (py.line = px.line) && (notStar ea && (notStar eb && (funB L.sc.kind && (![ea, eb].all (foldedForSure 8) && !([ea, eb].all (constantsAlone 8))))))))))))
mutual
def chkS (S : Sx) : Lo → Bool → St → Stmt → Bool
  | L, _, .asg g e, st => (match g, st with
    | .n i, .Assign [.Name x p] ee _ => decide (S.N[i]? = some x) && (locB L x && (funB L.sc.kind && ((notComp ee || listC L e ee x p) && chk S L e ee)))
    | .t gs, .Assign [.Tuple ts n p] ee _ => chkT S L (.t gs) (.Tuple ts n p) && (notComp ee && ((notTup ee || cellT L.sc ts) && chk S L e ee))
    | _, _ => false)
  | L, _, .par i j a b, st => (match st with
    | .Assign [.Tuple [.Name x px, .Name y py] _ _] (.Tuple [ea, eb] _ _) _ => L.cm && (parB S L i j x y px py ea eb && (chk S L a ea && chk S L b eb))
    | _ => false)
  | L, _, .app i e, st => (match st with
    | .Expr (.Call (.Attribute (.Name x _) m apos) [ee] [] cpos) _ => decide (m = ("append" : Str)) && (nmB S L i x && (notStar ee && ((apos.endLine == cpos.line) && chk S L e ee)))
    | _ => false)
  | L, _, .ext i e, st => (match st with
    | .AugAssign (.Name x _) .Add ee _ => decide (S.N[i]? = some x) && (locB L x && chk S L e ee)
    | .Expr (.Call (.Attribute (.Name x _) m apos) [ee] [] cpos) _ => decide (m = ("extend" : Str)) && (nmB S L i x && (notStar ee && ((apos.endLine == cpos.line) && chk S L e ee)))
    | _ => false)
  | L, _, .sub i k e, st => (match st with
    | .Assign [.Subscript (.Name x _) ek _] ee _ => nmB S L i x && (notSlice ek && (chk S L k ek && chk S L e ee))
    | _ => false)
  | L, _, .fset y e, st => (match st with
    | .Assign [.Attribute (.Name x _) z _] ee _ => decide (z = y) && (nmB S L 0 x && chk S L e ee)
    | _ => false)
  | L, _, .fsub y k e, st => (match st with
    | .Assign [.Subscript (.Attribute (.Name x _) z _) ek _] ee _ => decide (z = y) && (nmB S L 0 x && (notSlice ek && (chk S L k ek && chk S L e ee)))
    | _ => false)
  | _, _, .aug _ _ _, _ => false
  | L, q, .ife c a b, st => (match st with
    | .If ec sa sb _ => chk S L c ec && (chkSs S L q a sa && chkSs S L q b sb)
    | _ => false)
  | L, q, .whl c b, st => (match st with
    | .While ec sb [] _ => !q && (L.cm && (chk S L c ec && chkSs S L false b sb))
    | _ => false)
  | L, q, .fr g it b, st => (match st with
    | .For tg iter sb [] _ => !q && (L.cm && (chkT S L g tg && (chkI S L it tg iter && (notSetE iter && chkSs S L false b sb))))
    | _ => false)
  | L, q, .frD g j b, st => (match st with
    | .For tg (.Name x _) sb [] _ => !q && (L.cm && (nmB S L j x && (chkT S L g tg && chkSs S L false b sb)))
    | _ => false)
  | L, _, .ret e, st => (match st with
    | .Return (some ee) _ => chk S L e ee
    | _ => false)
  | _, _, .retN, st => (match st with
    | .Return none _ => true
    | _ => false)
  | L, _, .rse c es, st => (match es, st with
    | .nil, .Raise (some (.Call (.Name x _) [] [] _)) none _ => L.cm && (decide (S.ename[c]? = some x) && (decide (c < S.nx) && glB L x))
    | .cons e .nil, .Raise (some (.Call (.Name x _) [ee] [] _)) none _ => L.cm && (decide (S.ename[c]? = some x) && (decide (S.nx ≤ c) && (glB L x && (notStar ee && chk S L e ee))))
    | _, _ => false)
  | L, _, .exp e, st => (match st with
    | .Expr ee _ => notComp ee && chk S L e ee
    | _ => false)
  | _, _, .pas, st => (match st with
    | .Pass _ => true
    | _ => false)
  | _, _, .brk, st => (match st with
    | .Break _ => true
    | _ => false)
  | _, _, .cnt, st => (match st with
    | .Continue _ => true
    | _ => false)
  | _, _, .nev, _ => true
  | L, _, .tryA b c i s, st => (match st with
    | .Try sb [.ExceptHandler (some (.Name x _)) (some n) (b₀ :: su) _] [] [] _ => L.cm && (decide (S.N[i]? = some n) && (lkB (L.sc.names.lookup n) .local && (decide (S.ename[c]? = some x) && (glB L x && (chkSs S L true b sb && chkSs S L.suite false s (b₀ :: su))))))
    | _ => false)
  | L, _, .tryT b c i s c2 s2, st => (match st with
    | .Try sb [.ExceptHandler (some (.Name x _)) (some n) (b₀ :: su) _, .ExceptHandler (some (.Name y _)) none (b₁ :: su2) _] [] [] _ => L.cm && (decide (S.N[i]? = some n) && (lkB (L.sc.names.lookup n) .local && (decide (S.ename[c]? = some x) && (glB L x && (decide (S.ename[c2]? = some y) && (glB L y && (chkSs S L true b sb && (chkSs S L.suite false s (b₀ :: su) && chkSs S L.suite false s2 (b₁ :: su2)))))))))
    | _ => false)
  | L, _, .tryO b c s, st => (match st with
    | .Try sb [.ExceptHandler (some (.Name x _)) none (b₀ :: su) _] [] [] _ => L.cm && (decide (S.ename[c]? = some x) && (glB L x && (chkSs S L true b sb && chkSs S L.suite false s (b₀ :: su))))
    | _ => false)
def chkSs (S : Sx) : Lo → Bool → Sts → List Stmt → Bool
  | _, _, .nil, ss => ss.isEmpty
  | L, q, .cons s r, ss => (match r, ss with
    | .nil, [x] => chkS S L q s x
    | r, x :: xs => !q && (chkS S L false s x && chkSs S L false r xs)
    | _, [] => false)
end
section
variable {G : Sg} {S : Sx} {T : Tab}
theorem swB_ok {X : Cx} {L : Lo} {W : WX} {ex : ExI} (P : PX G S T X L W ex) (hk : funB L.sc.kind = true) {i : Ex} {e : Expr} {x : Str} {p : Pos} (h : (notComp e || listC L i e x p) = true) (l : Nat) : swapsWith e (some (.Name x p)) l X.env = pure (swB L e x p) := by
  rcases Bool.or_eq_true_iff.mp h with h | h
  · rw [swaps_no h]
    cases e <;> first
      | rfl
      | exact absurd h Bool.false_ne_true
  · cases e with
    | ListComp elt gens s pos =>
      have hb : (X.env.blockKind == ScopeKind.function) = true := by
        unfold Env.blockKind
        rw [P.esc, funB_ok hk]
        rfl
      show (pure (X.env.blockKind == .function && X.env.kindOf x == some .local && p.line == pos.line && !(s.names.any fun (n, k) => n == x && (k == .local || k == .cell))) : Sem Bool) = pure (swB L (.ListComp elt gens s pos) x p)
      unfold swB
      rw [hb, Bool.true_and, lk_loc, show X.env.kindOf x = L.sc.names.lookup x by unfold Env.kindOf; rw [P.esc], Bool.and_assoc]
    | DictComp kx vx gens s pos =>
      have hb : (X.env.blockKind == ScopeKind.function) = true := by
        unfold Env.blockKind
        rw [P.esc, funB_ok hk]
        rfl
      show (pure (X.env.blockKind == .function && X.env.kindOf x == some .local && p.line == pos.line && !(s.names.any fun (n, k) => n == x && (k == .local || k == .cell))) : Sem Bool) = pure (swB L (.DictComp kx vx gens s pos) x p)
      unfold swB
      rw [hb, Bool.true_and, lk_loc, show X.env.kindOf x = L.sc.names.lookup x by unfold Env.kindOf; rw [P.esc], Bool.and_assoc]
    | _ => exact absurd h Bool.false_ne_true
theorem par_swap {X : Cx} {L : Lo} {W : WX} {ex : ExI} (P : PX G S T X L W ex) {i j : Nat} {x y : Str} {px py pt pt2 : Pos} {kt k2 : Nat} {ea eb : Expr} (h : parB S L i j x y px py ea eb = true) :
    swappedStores [.Tuple [.Name x px, .Name y py] kt pt] (.Tuple [ea, eb] k2 pt2) X.env = pure (some [x, y]) := by
  unfold parB at h
  obtain ⟨_, h⟩ := bb h
  obtain ⟨_, h⟩ := bb h
  obtain ⟨_, h⟩ := bb h
  obtain ⟨hxy, h⟩ := bb h
  obtain ⟨hx, h⟩ := bb h
  obtain ⟨hy, h⟩ := bb h
  obtain ⟨hl, h⟩ := bb h
  obtain ⟨h1, h⟩ := bb h
  obtain ⟨h2, h⟩ := bb h
  obtain ⟨hk, h⟩ := bb h
  obtain ⟨h3, h4⟩ := bb h
  have hxy := of_decide_eq_true hxy
  have hl := of_decide_eq_true hl
  have kx : X.env.kindOf x = some .local := by unfold Env.kindOf; rw [P.esc]; exact lkB_ok hx
  have ky : X.env.kindOf y = some .local := by unfold Env.kindOf; rw [P.esc]; exact lkB_ok hy
  have hb : (X.env.blockKind != ScopeKind.function) = false := by
    unfold Env.blockKind
    rw [P.esc, funB_ok hk]
    rfl
  have e3 : [x, y].eraseDups = [x, y] := by
    have z : (y == x) = false := by simp; exact fun e => hxy e.symm
    simp [List.eraseDups_cons, z]
  have h3 := nb h3
  have h4 := nb h4
  unfold swappedStores
  simp only [List.length_cons, List.length_nil, hb, List.any_cons, List.any_nil, List.head?_cons, Option.map_some, Option.getD_some, List.filterMap_cons, List.filterMap_nil, kx, ky, Expr.pos, hl, h3, h4]
  simp
  rw [if_neg, e3]
  · rfl
  · intro h
    rcases h with h | h
    · split at h
      · exact absurd h1 Bool.false_ne_true
      · exact absurd h Bool.false_ne_true
    · split at h
      · exact absurd h2 Bool.false_ne_true
      · exact absurd h Bool.false_ne_true
/-- in an except suite -/
theorem PY.suite {X : Cx} {L : Lo} {W : WX} {ex : ExI} {a : Addr} {oe : Obj} {pn : List (Addr × Obj)} {cls : Value} {d : Option Addr} (P : PY G S T X L W ex) (hz : Zc cls d oe) (hf : ∃ vs, oe.data = .fields vs) : PY G S T (X.suite a ((a, oe) :: pn)) L.suite noW ⟨some (a, cls, d), ex.s⟩ where
  px := P.px.suite P.hE P.hN hz hf
  pass := fun z => absurd z (fun h => nomatch h)
  hE := P.hE
  hN := P.hN
  hs := fun z => absurd z (fun h => nomatch h)
  hf := fun z => absurd z (fun h => nomatch h)
theorem PY.tr {X : Cx} {L : Lo} {W W' : WX} {ex : ExI} {pn : List (Addr × Obj)} {xe : Value → Shared → Prop} (P : PY G S T X L W ex) (hc : L.cm = true) (tk : Takes (X.tr pn xe) W') (hp : PassesOwn (model X.prog X.w) X.A X.env xe) : PY G S T (X.tr pn xe) L W' ex where
  px := P.px.tr hc tk
  pass := fun _ => hp
  hE := P.hE
  hN := P.hN
  hs := P.hs
  hf := P.hf
mutual
theorem sndS : ∀ (s : St) (st : Stmt) (q : Bool) (X : Cx) (L : Lo) (W : WX) (ex : ExI) (A₀ : Addr → Prop) (H₀ : Hp), chkS S L q s st = true → PY G S T X L W ex → FiOk G T → (L.cm = true → ex.e = none) → PS X st (tS G T W ex A₀ H₀ q s)
  | .asg g e, st, q, X, L, W, ex, A₀, H₀, h, P, F, hx => by
    rw [chkS.eq_def] at h
    dsimp only at h
    split at h
    · rename_i i x p ee pos
      obtain ⟨h1, h⟩ := bb h
      obtain ⟨h2, h⟩ := bb h
      obtain ⟨h3, h⟩ := bb h
      obtain ⟨h4, h5⟩ := bb h
      obtain ⟨k1, k2⟩ := locB_ok P.px h2
      have sw := swB_ok P.px h3 h4 pos.line
      have hi : X.N[i]? = some x := by rw [P.px.nm]; exact of_decide_eq_true h1
      cases b : swB L ee x p with
      | false =>
        rw [b] at sw
        exact ss_set P.px hi k1 k2 (snd e ee X L W h5 P.px F).pe sw
      | true =>
        rw [b] at sw
        cases ee with
        | ListComp elt gens scope cpos =>
          have hloc : X.env.scope.names.lookup x = some .local := by
            rw [P.px.esc]
            exact lkB_ok (bb b).1
          cases e with
          | lc own g it ifs e =>
            rw [chk.eq_def] at h5
            dsimp only at h5
            split at h5
            · rename_i elt' tg iter xifs scope' pos' heq
              cases heq
              obtain ⟨hc, h5⟩ := bb h5
              obtain ⟨h6, h5⟩ := bb h5
              obtain ⟨h7, h5⟩ := bb h5
              obtain ⟨h8, h5⟩ := bb h5
              obtain ⟨h9, h5⟩ := bb h5
              obtain ⟨h10, h5⟩ := bb h5
              obtain ⟨h11, h12⟩ := bb h5
              have z := ss_setLc (A₀ := A₀) (H₀ := H₀) (q := q) (own := ownL S own) (g := g) P.px hc hi hloc sw (sndI it _ _ X L W h8 P.px F) (blk_ok P.px h6) (fun s H C cl fp => snd_t g _ _ _ _ h7 (P.px.blk hc s H _ C cl fp)) (fun s H C cl fp => sndF ifs _ _ _ _ h9 (P.px.blk hc s H _ C cl fp) F)
                (fun s H C cl fp => (snd e _ _ _ _ h10 (P.px.blk hc s H _ C cl fp) F).pe) (fun x => folded_no h11 _ x) (by rw [ownL_snd]; exact all_mem h12)
              rw [ownL_snd] at z
              exact z
            · exact absurd h5 Bool.false_ne_true
          | lc2 own own2 g it ifs g2 it2 ifs2 e =>
            rw [chk.eq_def] at h5
            dsimp only at h5
            split at h5
            · rename_i elt' tg iter xifs tg2 iter2 xifs2 scope' pos' heq
              cases heq
              obtain ⟨hc, h5⟩ := bb h5
              obtain ⟨h6, h5⟩ := bb h5
              obtain ⟨h7, h5⟩ := bb h5
              obtain ⟨h8, h5⟩ := bb h5
              obtain ⟨h9, h5⟩ := bb h5
              obtain ⟨h10, h5⟩ := bb h5
              obtain ⟨h11, h5⟩ := bb h5
              obtain ⟨h12, h5⟩ := bb h5
              obtain ⟨h13, h5⟩ := bb h5
              obtain ⟨h14, h5⟩ := bb h5
              obtain ⟨h15, h5⟩ := bb h5
              obtain ⟨h16, h5⟩ := bb h5
              obtain ⟨h17, h18⟩ := bb h5
              have z := ss_setLc2 (A₀ := A₀) (H₀ := H₀) (q := q) (own := ownL S own) (vs1 := own2) (g := g) (g2 := g2) P.px hc hi hloc sw (sndI it _ _ X L W h8 P.px F) (blk_ok P.px h6) (by rw [ownL_snd]; exact all_mem h18) (fun s H C cl fp => snd_t g _ _ _ _ h7 (P.px.blk hc s H _ C cl fp)) (fun s H C cl fp => sndF ifs _ _ _ _ h9 (P.px.blk hc s H _ C cl fp) F)
                (fun s H C cl fp => sndI it2 _ _ _ _ _ h14 (P.px.blk hc s H _ C cl fp) F) (fun s H C cl fp => snd_t g2 _ _ _ _ h13 (P.px.blk hc s H _ C cl fp)) (fun s H C cl fp => sndF ifs2 _ _ _ _ h15 (P.px.blk hc s H _ C cl fp) F)
                (fun s H C cl fp => (snd e _ _ _ _ h10 (P.px.blk hc s H _ C cl fp) F).pe) (fun x => folded_no h11 _ x) (fun env x => folded_no h16 env x) (by rw [ownL_snd]; exact all_mem h12) (all_mem h17)
              rw [ownL_snd] at z
              exact z
            · exact absurd h5 Bool.false_ne_true
          | lcN own g it ifs cs e =>
            rw [chk.eq_def] at h5
            dsimp only at h5
            split at h5
            · rename_i elt' tg iter xifs rest scope' pos' heq
              cases heq
              obtain ⟨hc, h5⟩ := bb h5
              obtain ⟨h6, h5⟩ := bb h5
              obtain ⟨h7, h5⟩ := bb h5
              obtain ⟨h8, h5⟩ := bb h5
              obtain ⟨h9, h5⟩ := bb h5
              obtain ⟨h10, h5⟩ := bb h5
              obtain ⟨h11, h5⟩ := bb h5
              obtain ⟨h12, h13⟩ := bb h5
              have hns := nsC_of cs rest own _ h13
              have z := ss_setLN (A₀ := A₀) (H₀ := H₀) (q := q) (own := ownL S own) (g := g) (cs := cs) P.px hc hi hloc sw (sndI it _ _ X L W h8 P.px F) (blk_ok P.px h6) (by rw [ownL_snd]; exact vsOf_of hns) (fun s H C cl fp => snd_t g _ _ _ _ h7 (P.px.blk hc s H _ C cl fp)) (fun s H C cl fp => sndF ifs _ _ _ _ h9 (P.px.blk hc s H _ C cl fp) F)
                (fun s H C cl fp => sndC cs rest own _ _ (⟨tg, iter, xifs, 0⟩ :: rest) 1 h13 (P.px.blk hc s H _ C cl fp) F (fun i => by rw [Nat.add_comm]; rfl))
                (fun s H C cl fp => (snd e _ _ _ _ h10 (P.px.blk hc s H _ C cl fp) F).pe) (fun x => folded_no h11 _ x) (by rw [ownL_snd]; exact all_mem h12) (by rw [ownL_snd]; exact hns)
              rw [ownL_snd] at z
              exact z
            · exact absurd h5 Bool.false_ne_true
          | lR it => cases it <;> (rw [chk.eq_def] at h5; exact absurd h5 Bool.false_ne_true)
          | tR it => cases it <;> (rw [chk.eq_def] at h5; exact absurd h5 Bool.false_ne_true)
          | _ =>
            rw [chk.eq_def] at h5
            exact absurd h5 Bool.false_ne_true
        | DictComp kx vx gens scope cpos =>
          have hloc : X.env.scope.names.lookup x = some .local := by
            rw [P.px.esc]
            exact lkB_ok (bb b).1
          have h4 : (false || (isN e || !swB L (.DictComp kx vx gens scope cpos) x p)) = true := h4
          rw [b] at h4
          cases e with
          | dcN own g it ifs cs ke ve =>
            rw [chk.eq_def] at h5
            dsimp only at h5
            split at h5
            · rename_i kx' vx' tg iter xifs rest scope' pos' heq
              cases heq
              obtain ⟨hc, h5⟩ := bb h5
              obtain ⟨h6, h5⟩ := bb h5
              obtain ⟨h7, h5⟩ := bb h5
              obtain ⟨h8, h5⟩ := bb h5
              obtain ⟨h9, h5⟩ := bb h5
              obtain ⟨h10, h5⟩ := bb h5
              obtain ⟨h10', h5⟩ := bb h5
              obtain ⟨h11, h5⟩ := bb h5
              obtain ⟨h12, h13⟩ := bb h5
              have hns := nsC_of cs rest own _ h13
              have z := ss_setDN (A₀ := A₀) (H₀ := H₀) (q := q) (own := ownL S own) (g := g) (cs := cs) P.px hc hi hloc sw (sndI it _ _ X L W h8 P.px F) (blk_ok P.px h6) (by rw [ownL_snd]; exact vsOf_of hns) (fun s H C cl fp => snd_t g _ _ _ _ h7 (P.px.blk hc s H _ C cl fp)) (fun s H C cl fp => sndF ifs _ _ _ _ h9 (P.px.blk hc s H _ C cl fp) F)
                (fun s H C cl fp => sndC cs rest own _ _ (⟨tg, iter, xifs, 0⟩ :: rest) 1 h13 (P.px.blk hc s H _ C cl fp) F (fun i => by rw [Nat.add_comm]; rfl))
                (fun s H C cl fp => (snd ke _ _ _ _ h10 (P.px.blk hc s H _ C cl fp) F).pe) (fun s H C cl fp => (snd ve _ _ _ _ h10' (P.px.blk hc s H _ C cl fp) F).pe) (fun x => folded_no h11 _ x) (by rw [ownL_snd]; exact all_mem h12) (by rw [ownL_snd]; exact hns)
              rw [ownL_snd] at z
              exact z
            · exact absurd h5 Bool.false_ne_true
          | _ => exact absurd h4 Bool.false_ne_true
        | _ => exact absurd b Bool.false_ne_true
    · rename_i gs ts n p ee pos
      obtain ⟨h1, h⟩ := bb h
      obtain ⟨h2, h⟩ := bb h
      obtain ⟨h3, h4⟩ := bb h
      exact ss_asgT (snd_t (.t gs) _ X L W h1 P.px) (snd e ee X L W h4 P.px F).pe h2 ((Bool.or_eq_true_iff.mp h3).elim (fun z => swapped_no z _) fun z => swapped_cell (by rw [P.px.esc]; exact z))
    · exact absurd h Bool.false_ne_true
  | .par i j a b, st, q, X, L, W, ex, A₀, H₀, h, P, F, hx => by
    rw [chkS.eq_def] at h
    dsimp only at h
    split at h
    · obtain ⟨hc, h⟩ := bb h
      obtain ⟨h1, h⟩ := bb h
      obtain ⟨h2, h3⟩ := bb h
      have h1' := h1
      unfold parB at h1
      obtain ⟨j1, h1⟩ := bb h1
      obtain ⟨j2, h1⟩ := bb h1
      obtain ⟨j3, h1⟩ := bb h1
      obtain ⟨j4, h1⟩ := bb h1
      obtain ⟨j5, h1⟩ := bb h1
      obtain ⟨j6, h1⟩ := bb h1
      obtain ⟨j7, h1⟩ := bb h1
      obtain ⟨j8, h1⟩ := bb h1
      obtain ⟨j9, h1⟩ := bb h1
      exact ss_par P.px hc (by rw [P.px.nm]; exact of_decide_eq_true j1) (by rw [P.px.nm]; exact of_decide_eq_true j2) (of_decide_eq_true j3) (by rw [P.px.esc]; exact lkB_ok j5) (by rw [P.px.esc]; exact lkB_ok j6) (snd a _ X L W h2 P.px F).pe (snd b _ X L W h3 P.px F).pe j8 j9 (par_swap P.px h1')
    · exact absurd h Bool.false_ne_true
  | .app i e, st, q, X, L, W, ex, A₀, H₀, h, P, F, hx => by
    rw [chkS.eq_def] at h
    dsimp only at h
    split at h
    · obtain ⟨h0, h⟩ := bb h
      obtain ⟨h1, h⟩ := bb h
      obtain ⟨h2, h⟩ := bb h
      obtain ⟨h3, h4⟩ := bb h
      have e0 := of_decide_eq_true h0
      subst e0
      obtain ⟨k1, k2, k3, k4⟩ := nmB_ok P.px h1
      exact ss_app P.px k1 k2 k3 k4 (snd e _ X L W h4 P.px F).pe h2 h3
    · exact absurd h Bool.false_ne_true
  | .ext i e, st, q, X, L, W, ex, A₀, H₀, h, P, F, hx => by
    rw [chkS.eq_def] at h
    dsimp only at h
    split at h
    · obtain ⟨h1, h⟩ := bb h
      obtain ⟨h2, h3⟩ := bb h
      obtain ⟨k1, k2⟩ := locB_ok P.px h2
      exact ss_ext P.px (by rw [P.px.nm]; exact of_decide_eq_true h1) k1 k2 (snd e _ X L W h3 P.px F).pe
    · obtain ⟨h0, h⟩ := bb h
      obtain ⟨h1, h⟩ := bb h
      obtain ⟨h2, h⟩ := bb h
      obtain ⟨h3, h4⟩ := bb h
      have e0 := of_decide_eq_true h0
      subst e0
      obtain ⟨k1, k2, k3, k4⟩ := nmB_ok P.px h1
      exact ss_extM P.px k1 k2 k3 k4 (snd e _ X L W h4 P.px F).pe h2 h3
    · exact absurd h Bool.false_ne_true
  | .sub i k e, st, q, X, L, W, ex, A₀, H₀, h, P, F, hx => by
    rw [chkS.eq_def] at h
    dsimp only at h
    split at h
    · obtain ⟨h1, h⟩ := bb h
      obtain ⟨h2, h⟩ := bb h
      obtain ⟨h3, h4⟩ := bb h
      obtain ⟨k1, k2, k3, k4⟩ := nmB_ok P.px h1
      exact ss_sub P.px k1 k2 k3 k4 (snd k _ X L W h3 P.px F).pe (snd e _ X L W h4 P.px F).pe h2
    · exact absurd h Bool.false_ne_true
  | .fset y e, st, q, X, L, W, ex, A₀, H₀, h, P, F, hx => by
    rw [chkS.eq_def] at h
    dsimp only at h
    split at h
    · obtain ⟨h0, h⟩ := bb h
      obtain ⟨h1, h2⟩ := bb h
      rw [of_decide_eq_true h0]
      obtain ⟨k1, k2, k3, k4⟩ := nmB_ok P.px h1
      exact ss_fset P.px F k1 k2 k3 k4 (snd e _ X L W h2 P.px F).pe
    · exact absurd h Bool.false_ne_true
  | .fsub y k e, st, q, X, L, W, ex, A₀, H₀, h, P, F, hx => by
    rw [chkS.eq_def] at h
    dsimp only at h
    split at h
    · obtain ⟨h0, h⟩ := bb h
      obtain ⟨h1, h⟩ := bb h
      obtain ⟨h2, h⟩ := bb h
      obtain ⟨h3, h4⟩ := bb h
      rw [of_decide_eq_true h0]
      obtain ⟨k1, k2, k3, k4⟩ := nmB_ok P.px h1
      exact ss_fsub P.px F k1 k2 k3 k4 (snd k _ X L W h3 P.px F).pe (snd e _ X L W h4 P.px F).pe h2
    · exact absurd h Bool.false_ne_true
  | .aug _ _ _, st, q, X, L, W, ex, A₀, H₀, h, P, F, hx => by
    rw [chkS.eq_def] at h
    exact absurd h Bool.false_ne_true
  | .ife c a b, st, q, X, L, W, ex, A₀, H₀, h, P, F, hx => by
    rw [chkS.eq_def] at h
    dsimp only at h
    split at h
    · obtain ⟨h1, h⟩ := bb h
      obtain ⟨h2, h3⟩ := bb h
      exact ss_if (snd c _ X L W h1 P.px F).pt (sndSs a _ q X L W ex A₀ H₀ h2 P F hx) (sndSs b _ q X L W ex A₀ H₀ h3 P F hx)
    · exact absurd h Bool.false_ne_true
  | .whl c b, st, q, X, L, W, ex, A₀, H₀, h, P, F, hx => by
    rw [chkS.eq_def] at h
    dsimp only at h
    split at h
    · obtain ⟨h0, h⟩ := bb h
      obtain ⟨hc, h⟩ := bb h
      obtain ⟨h1, h2⟩ := bb h
      rw [nb h0]
      exact ss_whl P hc (snd c _ X L W h1 P.px F).pt (sndSs b _ false X L W ex A₀ H₀ h2 P F hx)
    · exact absurd h Bool.false_ne_true
  | .fr g it b, st, q, X, L, W, ex, A₀, H₀, h, P, F, hx => by
    rw [chkS.eq_def] at h
    dsimp only at h
    split at h
    · obtain ⟨h0, h⟩ := bb h
      obtain ⟨hc, h⟩ := bb h
      obtain ⟨h1, h⟩ := bb h
      obtain ⟨h2, h⟩ := bb h
      obtain ⟨h3, h4⟩ := bb h
      rw [nb h0]
      exact ss_fr P hc (sndI it _ _ X L W h2 P.px F) (snd_t g _ X L W h1 P.px) (sndSs b _ false X L W ex A₀ H₀ h4 P F hx) (fun x => folded_no h3 _ x)
    · exact absurd h Bool.false_ne_true
  | .frD g j b, st, q, X, L, W, ex, A₀, H₀, h, P, F, hx => by
    rw [chkS.eq_def] at h
    dsimp only at h
    split at h
    · obtain ⟨h0, h⟩ := bb h
      obtain ⟨hc, h⟩ := bb h
      obtain ⟨h1, h⟩ := bb h
      obtain ⟨h2, h3⟩ := bb h
      rw [nb h0]
      obtain ⟨k1, k2, k3, k4⟩ := nmB_ok P.px h1
      exact ss_frD P hc k1 k2 k3 k4 (fun _ _ => snd_t g _ X L W h2 P.px) (fun A₁ H₁ => sndSs b _ false X L W ex A₁ H₁ h3 P F hx)
    · exact absurd h Bool.false_ne_true
  | .ret e, st, q, X, L, W, ex, A₀, H₀, h, P, F, hx => by
    rw [chkS.eq_def] at h
    dsimp only at h
    split at h
    · exact ss_ret (snd e _ X L W h P.px F).pe
    · exact absurd h Bool.false_ne_true
  | .retN, st, q, X, L, W, ex, A₀, H₀, h, P, F, hx => by
    rw [chkS.eq_def] at h
    dsimp only at h
    split at h
    · exact ss_retN
    · exact absurd h Bool.false_ne_true
  | .rse c es, st, q, X, L, W, ex, A₀, H₀, h, P, F, hx => by
    rw [chkS.eq_def] at h
    dsimp only at h
    split at h
    · obtain ⟨hc, h⟩ := bb h
      obtain ⟨h1, h⟩ := bb h
      obtain ⟨h0, h2⟩ := bb h
      obtain ⟨g1, g2⟩ := glB_ok P.px h2
      exact ss_rse P.px hc (of_decide_eq_true h1) (of_decide_eq_true h0) g1 g2
    · obtain ⟨hc, h⟩ := bb h
      obtain ⟨h1, h⟩ := bb h
      obtain ⟨h0, h⟩ := bb h
      obtain ⟨h2, h⟩ := bb h
      obtain ⟨h3, h4⟩ := bb h
      obtain ⟨g1, g2⟩ := glB_ok P.px h2
      exact ss_rseA P.px hc (of_decide_eq_true h1) (of_decide_eq_true h0) g1 (snd _ _ X L W h4 P.px F).pe g2 h3
    · exact absurd h Bool.false_ne_true
  | .exp e, st, q, X, L, W, ex, A₀, H₀, h, P, F, hx => by
    rw [chkS.eq_def] at h
    dsimp only at h
    split at h
    · obtain ⟨h1, h2⟩ := bb h
      exact ss_exp (snd e _ X L W h2 P.px F).pe h1
    · exact absurd h Bool.false_ne_true
  | .pas, st, q, X, L, W, ex, A₀, H₀, h, P, F, hx => by
    rw [chkS.eq_def] at h
    dsimp only at h
    split at h
    · exact ss_pas
    · exact absurd h Bool.false_ne_true
  | .brk, st, q, X, L, W, ex, A₀, H₀, h, P, F, hx => by
    rw [chkS.eq_def] at h
    dsimp only at h
    split at h
    · exact ss_brk
    · exact absurd h Bool.false_ne_true
  | .cnt, st, q, X, L, W, ex, A₀, H₀, h, P, F, hx => by
    rw [chkS.eq_def] at h
    dsimp only at h
    split at h
    · exact ss_cnt
    · exact absurd h Bool.false_ne_true
  | .nev, st, q, X, L, W, ex, A₀, H₀, h, P, F, hx => ss_nev
  | .tryA b c i s, st, q, X, L, W, ex, A₀, H₀, h, P, F, hx => by
    rw [chkS.eq_def] at h
    dsimp only at h
    split at h
    · obtain ⟨hc, h⟩ := bb h
      obtain ⟨h1, h⟩ := bb h
      obtain ⟨h2, h⟩ := bb h
      obtain ⟨h3, h⟩ := bb h
      obtain ⟨h4, h⟩ := bb h
      obtain ⟨h5, h6⟩ := bb h
      obtain ⟨g1, g2⟩ := glB_ok P.px h4
      refine ss_tryA P (hx hc) hc (by rw [P.px.nm]; exact of_decide_eq_true h1) (by unfold Env.kindOf; rw [P.px.esc]; exact lkB_ok h2) (of_decide_eq_true h3) g1 g2 (fun W' pn xe tk hp => sndSs b _ true _ L W' ex A₀ H₀ h5 (P.tr hc tk hp) F hx) fun a oe cls d pn hz hf => ?_
      exact sndSs s _ false _ L.suite noW _ A₀ H₀ h6 (P.suite hz hf) F fun z => absurd z (fun h => nomatch h)
    · exact absurd h Bool.false_ne_true
  | .tryT b c i s c2 s2, st, q, X, L, W, ex, A₀, H₀, h, P, F, hx => by
    rw [chkS.eq_def] at h
    dsimp only at h
    split at h
    · obtain ⟨hc, h⟩ := bb h
      obtain ⟨h1, h⟩ := bb h
      obtain ⟨h2, h⟩ := bb h
      obtain ⟨h3, h⟩ := bb h
      obtain ⟨h4, h⟩ := bb h
      obtain ⟨h7, h⟩ := bb h
      obtain ⟨h8, h⟩ := bb h
      obtain ⟨h5, h⟩ := bb h
      obtain ⟨h6, h9⟩ := bb h
      obtain ⟨g1, g2⟩ := glB_ok P.px h4
      obtain ⟨g3, g4⟩ := glB_ok P.px h8
      exact ss_tryT P (hx hc) hc (by rw [P.px.nm]; exact of_decide_eq_true h1) (by unfold Env.kindOf; rw [P.px.esc]; exact lkB_ok h2) (of_decide_eq_true h3) g1 g2 (of_decide_eq_true h7) g3 g4 (fun W' pn xe tk hp => sndSs b _ true _ L W' ex A₀ H₀ h5 (P.tr hc tk hp) F hx)
        (fun a oe cls d pn hz hf => sndSs s _ false _ L.suite noW _ A₀ H₀ h6 (P.suite hz hf) F fun z => absurd z (fun h => nomatch h)) fun a oe cls d pn hz hf => sndSs s2 _ false _ L.suite noW _ A₀ H₀ h9 (P.suite hz hf) F fun z => absurd z (fun h => nomatch h)
    · exact absurd h Bool.false_ne_true
  | .tryO b c s, st, q, X, L, W, ex, A₀, H₀, h, P, F, hx => by
    rw [chkS.eq_def] at h
    dsimp only at h
    split at h
    · obtain ⟨hc, h⟩ := bb h
      obtain ⟨h3, h⟩ := bb h
      obtain ⟨h4, h⟩ := bb h
      obtain ⟨h5, h6⟩ := bb h
      obtain ⟨g1, g2⟩ := glB_ok P.px h4
      refine ss_tryO P (hx hc) hc (of_decide_eq_true h3) g1 g2 (fun W' pn xe tk hp => sndSs b _ true _ L W' ex A₀ H₀ h5 (P.tr hc tk hp) F hx) fun a oe cls d pn hz hf => ?_
      exact sndSs s _ false _ L.suite noW _ A₀ H₀ h6 (P.suite hz hf) F fun z => absurd z (fun h => nomatch h)
    · exact absurd h Bool.false_ne_true
theorem sndSs : ∀ (s : Sts) (st : List Stmt) (q : Bool) (X : Cx) (L : Lo) (W : WX) (ex : ExI) (A₀ : Addr → Prop) (H₀ : Hp), chkSs S L q s st = true → PY G S T X L W ex → FiOk G T → (L.cm = true → ex.e = none) → PSs X st (tSs G T W ex A₀ H₀ q s)
  | .nil, st, q, X, L, W, ex, A₀, H₀, h, P, F, hx => by
    rw [chkSs.eq_def] at h
    cases st with
    | nil => exact ss_nil
    | cons => exact absurd h Bool.false_ne_true
  | .cons s r, st, q, X, L, W, ex, A₀, H₀, h, P, F, hx => by
    rw [chkSs.eq_def] at h
    dsimp only at h
    split at h
    · exact ss_one (sndS s _ q X L W ex A₀ H₀ h P F hx)
    · obtain ⟨h0, h⟩ := bb h
      obtain ⟨h1, h2⟩ := bb h
      rw [nb h0]
      exact ss_cons (sndS s _ false X L W ex A₀ H₀ h1 P F hx) (sndSs r _ false X L W ex A₀ H₀ h2 P F hx)
    · exact absurd h Bool.false_ne_true
end
end
end PD
end

section
set_option Elab.async false
set_option linter.all false
set_option maxRecDepth 100000
set_option maxHeartbeats 1000000
/-! PD, part 16b: an instance of the first class, once made, is told as one with a field that is filled later. -/
namespace PD
open PySem PySem.Spec PyProof.Rows L2
section
variable {G : Sg} {A : Addr → Prop} {H H' : Hp} {p dx : Addr}
/-- what stands on neither stays -/
structure Chg (A : Addr → Prop) (H H' : Hp) (p dx : Addr) : Prop where
  hp : ∃ C d fs, H p = some (.ins C d fs)
  hd : H dx = some (.own p)
  nA : ¬ A p
  hs : ∀ b, b ≠ p → b ≠ dx → H' b = H b
theorem Chg.nd (c : Chg A H H' p dx) {a : Addr} {o : HO} (h : H a = some o) (no : ∀ x, o ≠ .own x) : a ≠ dx := fun e => by
  subst e
  exact no p (Option.some.inj (h.symm.trans c.hd))
theorem Chg.np (c : Chg A H H' p dx) {a : Addr} {o : HO} (h : H a = some o) (no : ∀ C d fs, o ≠ .ins C d fs) : a ≠ p := fun e => by
  subst e
  obtain ⟨C, d, fs, z⟩ := c.hp
  exact no C d fs (Option.some.inj (h.symm.trans z))
theorem Chg.na (c : Chg A H H' p dx) {a : Addr} (h : A a) : a ≠ p := fun e => c.nA (e ▸ h)
theorem Chg.at (c : Chg A H H' p dx) {a : Addr} {o : HO} (h : H a = some o) (h1 : a ≠ p) (no : ∀ x, o ≠ .own x) : H' a = some o := by
  rw [c.hs a h1 (c.nd h no)]
  exact h
theorem Chg.rd (c : Chg A H H' p dx) {a : Addr} {o : HO} (h : Rd H a o) (h1 : A a) (no : ∀ x, o ≠ .own x) : Rd H' a o := by
  rcases h with h | ⟨ob, h⟩
  · exact .inl (c.at h (c.na h1) no)
  · exact .inr ⟨ob, c.at h (c.na h1) fun _ z => nomatch z⟩
mutual
theorem Has.chg (s : Chg A H H' p dx) : ∀ {x : D} {v : V}, Has G A H v x → Has G A H' v x
  | .non, _, h => by cases h; exact .non
  | .bl b, _, h => by cases h; exact .bl b
  | .int i, _, h => by cases h; exact .int i
  | .str t, _, h => by cases h; exact .str t
  | .tup ds, _, h => by
    cases h with
    | tup h1 h2 => exact .tup (s.at h1 (s.np h1 fun _ _ _ z => nomatch z) fun _ z => nomatch z) (HasL.chg s h2)
  | .scr ds, _, h => by
    cases h with
    | scr h1 h2 => exact .scr (h1.imp (fun ⟨o, z⟩ => ⟨o, s.at z (s.np z fun _ _ _ z => nomatch z) fun _ z => nomatch z⟩) id) (HasL.chg s h2)
  | .lst ds, _, h => by
    cases h with
    | lst h0 h1 h2 => exact .lst h0 (s.at h1 (s.na h0) fun _ z => nomatch z) (HasL.chg s h2)
  | .dct t ds, _, h => by
    cases h with
    | dK h0 h1 h2 h3 => exact .dK h0 (s.rd h1 h0 fun _ z => nomatch z) h2 (HasL.chgP s h3)
    | dT h0 h1 h2 h3 => exact .dT h0 (s.rd h1 h0 fun _ z => nomatch z) h2 (HasL.chgP s h3)
  | .obj c ds, _, h => by
    cases h with
    | obj h0 h1 h2 h3 h4 h5 => exact .obj h0 (s.at h1 (s.na h0) fun _ z => nomatch z) h2 h3 (HasL.chg s h4) h5
    | bok h0 h1 h2 h3 h4 h5 h6 h7 h8 => exact .bok h0 h1 (s.at h2 (s.na h0) ext_no.2.2.2) (s.at h3 (s.na h1) ext_no.2.2.2) h4 h5 h6 h7 (HasL.chg s h8)
theorem HasL.chg (s : Chg A H H' p dx) : ∀ {ds : List D} {vs : List V}, HasL G A H vs ds → HasL G A H' vs ds
  | [], _, h => by cases h; exact .nil
  | x :: ds, _, h => by
    cases h with
    | cons h1 h2 => exact .cons (Has.chg s h1) (HasL.chg s h2)
theorem HasL.chgP (s : Chg A H H' p dx) : ∀ {ds : List (D × D)} {vs : List V}, HasL G A H vs (ds.map Prod.snd) → HasL G A H' vs (ds.map Prod.snd)
  | [], _, h => by cases h; exact .nil
  | (k, x) :: ds, _, h => by
    cases h with
    | cons h1 h2 => exact .cons (Has.chg s h1) (HasL.chgP s h2)
end
end
/-- told as it is, or one instance otherwise -/
def RW (H' H'' : Hp) : Prop := H'' = H' ∨ ∃ a C dx fs β, H' a = some (.ins C dx (fs ++ [(memoF, V.non)])) ∧ H'' = upd (upd H' dx (bkD dx fs β)) a (bkA a C dx)
/-- instances have their dicts -/
def OwnOk (H : Hp) : Prop := ∀ a C dx fs, H a = some (.ins C dx fs) → H dx = some (.own a) ∧ dx ≠ a
theorem ownOk_of {X : Cx} {pins : List (Addr × Obj)} {σ : L2.St} {H : Hp} {s : Shared} (I : L2.Inv X pins σ H s) : OwnOk H := fun a C dx fs e => by
  obtain ⟨mA, O, _, _, _, h⟩ := ins_get I.hok e
  exact ⟨h, O.ne⟩
theorem rw_ok {X : Cx} {pins : List (Addr × Obj)} {σ : L2.St} {H H' : Hp} {s : Shared} (I : L2.Inv X pins σ H s) (r : RW H H') : L2.Inv X pins σ H' s := by
  rcases r with rfl | ⟨a, C, dx, fs, β, e, rfl⟩
  · exact I
  · obtain ⟨mA, O, r, wi, _, hd⟩ := ins_get I.hok e
    refine inv_swap I e hd O.ne ins_no own_no (fun b h1 h2 => by rw [upd_ne h1, upd_ne h2]) (fun o z => ?_) fun o z => ?_
    · rw [upd_same] at z
      cases z
      exact bkA_ok O.obj
    · rw [upd_ne O.ne, upd_same] at z
      cases z
      exact bkD_ok O.ns (.inl rfl) r wi
def wkE (Z : Ends) : Ends where
  nx := fun σ' H' => OwnOk H' → ∃ H'', RW H' H'' ∧ Z.nx σ' H''
  rt := fun v H' => OwnOk H' → ∃ H'', RW H' H'' ∧ Z.rt v H''
  bk := Z.bk
  ct := Z.ct
theorem pss_wk {X : Cx} {e : List Stmt} {t : TS} (h : PSs X e t) : PSs X e (fun Z σ H => t (wkE Z) σ H) := ⟨fun pins s σ H Z I q => thn (h.run pins s σ H _ I q) fun f s' hf => by
  cases f with
  | next =>
    obtain ⟨σ', H', I', z⟩ := hf
    obtain ⟨H'', r, z⟩ := z (ownOk_of I')
    exact ⟨σ', H'', rw_ok I' r, z⟩
  | ret u =>
    obtain ⟨v, σ', H', I', rv, z⟩ := hf
    obtain ⟨H'', r, z⟩ := z (ownOk_of I')
    exact ⟨v, σ', H'', rw_ok I' r, rv, z⟩
  | brk => exact hf
  | cont => exact hf⟩
/-- the end of Book's __init__ -/
theorem memo_end {G : Sg} {A₀ : Addr → Prop} {H₁ : Hp} {x dx : Addr} {A' : Addr → Prop} {O' : Ow} {σ' : L2.St} {H' : Hp} {ρ' : Env} {fs : List OF} {Q : Hp → Prop} (mem : (G.cf 0)[4]? = some memoF ∧ (G.cf 0).length = 5)
    (hx : H₁ x = none) (hdx : H₁ dx = none) (er : ER G ⟨none, (x, dx)⟩ A₀ H₁ A' O' σ' H' ρ') (e0 : slotE ρ' 0 = some (.oo 0 fs)) (hm : memoOk fs = true) (ow : OwnOk H') (h : ∀ H', Same H₁ H' → Has G (fr A₀ H₁) H' (.ref x) (.obj 0 (fs.map OF.d)) → Q H') : ∃ H'', RW H' H'' ∧ Q H'' := by
  obtain ⟨v, v1, v2⟩ := er.slot 0 _ (slotE_some e0)
  obtain ⟨p, dx', fl, ⟨rfl, hp⟩, j0, j1, j2, j3, j4⟩ := v2
  obtain ⟨rfl, rfl⟩ := Prod.mk.inj hp
  obtain ⟨od, ne⟩ := ow _ _ _ _ j1
  have nA := (er.own _ _ _ j0).1
  have hl : fs.length = 5 ∧ fs[4]? = some (.sh .non) := by
    unfold memoOk at hm
    split at hm
    · exact ⟨rfl, rfl⟩
    · cases hm
  obtain ⟨hl, h4⟩ := hl
  have fl5 : fl.length = 5 := by rw [List.length_map] at j3; omega
  obtain ⟨f0, f1, f2, f3, ⟨g, w⟩, rfl⟩ : ∃ f0 f1 f2 f3 f4, fl = [f0, f1, f2, f3, f4] := by
    match fl, fl5 with
    | [f0, f1, f2, f3, f4], _ => exact ⟨f0, f1, f2, f3, f4, rfl⟩
  have hw : w = .non := by
    have z := j4 4 _ w h4 rfl
    cases z
    rfl
  subst hw
  have hg : g = memoF := by
    have z : ([f0, f1, f2, f3, (g, V.non)].map Prod.fst)[4]? = some g := rfl
    rw [j2, List.getElem?_take_of_lt (by omega), mem.1] at z
    exact (Option.some.inj z).symm
  subst hg
  have j2' : [f0, f1, f2, f3].map Prod.fst ++ [memoF] = G.cf 0 := by
    have z : [f0, f1, f2, f3, (memoF, V.non)].map Prod.fst = G.cf 0 := by rw [j2, hl, List.take_of_length_le (by omega)]
    exact z
  refine ⟨_, .inr ⟨p, _, dx', [f0, f1, f2, f3], G.kn (.obj 0 (fs.map OF.d)), j1, rfl⟩, h _ (fun b o e => ?_) ?_⟩
  · rw [upd_ne (fun z => by subst z; rw [hx] at e; cases e), upd_ne (fun z => by subst z; rw [hdx] at e; cases e)]
    exact er.same b o e
  · refine .bok (.inr hx) (.inr hdx) upd_same (by rw [upd_ne ne, upd_same]) ne rfl j2' rfl (hasL_of (by rw [List.length_map]; exact j3) fun i w d e1 e2 => ?_)
    have e1 : ([f0, f1, f2, f3, (memoF, V.non)].map Prod.snd)[i]? = some w := e1
    rw [List.getElem?_map, Option.map_eq_some_iff] at e2
    obtain ⟨o, e3, e4⟩ := e2
    subst e4
    have z := (j4 i o w e3 e1).has
    refine (Has.chg (p := p) (dx := dx') ⟨⟨_, _, _, j1⟩, od, fun z => ?_, fun b h1 h2 => by rw [upd_ne h1, upd_ne h2]⟩ z).mono (fun q z => ?_) (Same.refl _)
    · rcases z with z | z
      · exact nA z
      · have := (er.uniq _ _ _ _ _ z j0).2
        omega
    · rcases z with z | z
      · exact er.sub q z
      · exact .inr (er.own _ _ _ z).2.2
end PD
end

section
set_option Elab.async false
set_option linter.all false
set_option maxRecDepth 100000
set_option maxHeartbeats 4000000
/-! PD, part 17: defs keep their promises. -/
namespace PD
open PySem PySem.Spec PyProof.Rows L2
/-- a def of the text: its names, its parameters, its tree -/
structure FnT where
  N : List Str
  ps : List Str
  body : List Stmt
  sc : Scope
def FnT.S (t : FnT) (S : Sx) : Sx := { S with N := t.N }
def FnT.L (t : FnT) : Lo := ⟨t.sc, fun _ => true, true⟩
def nodupB : List Str → Bool
  | [] => true
  | x :: xs => decide (x ∉ xs) && nodupB xs
theorem nodupB_ok : ∀ {xs : List Str}, nodupB xs = true → xs.Nodup
  | [], _ => .nil
  | x :: xs, h => by
    obtain ⟨h1, h2⟩ := bb h
    exact List.nodup_cons.mpr ⟨of_decide_eq_true h1, nodupB_ok h2⟩
/-- the def's own tree is what the small language says -/
def FnT.ok (t : FnT) (S : Sx) (f : FnI) : Bool := funB t.sc.kind && (!t.sc.isCoroutine && (!t.sc.isGenerator && (nodupB t.N && (decide (t.N.take t.ps.length = t.ps) && ((t.ps.all fun x => lkB (t.sc.names.lookup x) .local || lkB (t.sc.names.lookup x) .cell) && ((t.sc.names.all fun y => !kB y.2 .free) &&
  (decide (f.n = t.N.length) && (decide (f.np = t.ps.length) && chkSs (t.S S) t.L false f.body t.body))))))))
theorem FnT.ok_scope {t : FnT} {S : Sx} {f : FnI} (h : t.ok S f = true) : FnScope t.N t.ps t.sc ∧ f.n = t.N.length ∧ f.np = t.ps.length ∧ chkSs (t.S S) t.L false f.body t.body = true := by
  obtain ⟨h1, h⟩ := bb h
  obtain ⟨h2, h⟩ := bb h
  obtain ⟨h3, h⟩ := bb h
  obtain ⟨h4, h⟩ := bb h
  obtain ⟨h5, h⟩ := bb h
  obtain ⟨h6, h⟩ := bb h
  obtain ⟨h7, h⟩ := bb h
  obtain ⟨h8, h⟩ := bb h
  obtain ⟨h9, h10⟩ := bb h
  rw [List.all_eq_true] at h6 h7
  refine ⟨⟨funB_ok h1, nb h2, nb h3, nodupB_ok h4, of_decide_eq_true h5, fun x hx => (Bool.or_eq_true_iff.mp (h6 x hx)).imp lkB_ok lkB_ok, fun y hy e => ?_⟩, of_decide_eq_true h8, of_decide_eq_true h9, h10⟩
  have z := h7 y hy
  rw [e] at z
  cases z
/-- it calls nothing and may be called where an exception is handled -/
def FnT.okQ (t : FnT) (S : Sx) (f : FnI) : Bool := t.ok S f && chkSs { t.S S with quiet := [] } ⟨t.sc, fun _ => true, false⟩ false f.body t.body
/-- `def __init__(self, x): self.f = x` -/
def FnT.oex (t : FnT) (f : Str) : Bool := (match t.body with
  | [.Assign [.Attribute (.Name y _) g _] (.Name x _) _] => decide (g = f) && (decide (t.N = [y, x]) && (visB t.sc y && (visB t.sc x && (!(y == ("__debug__" : Str)) && (!(y == ("__classdict__" : Str)) && (!(x == ("__debug__" : Str)) && !(x == ("__classdict__" : Str))))))))
  | _ => false) && (decide (t.ps = t.N) && (funB t.sc.kind && (!t.sc.isCoroutine && (!t.sc.isGenerator && (nodupB t.N && ((t.ps.all fun x => lkB (t.sc.names.lookup x) .local || lkB (t.sc.names.lookup x) .cell) && (t.sc.names.all fun y => !kB y.2 .free)))))))
theorem visB_vis {sc : Scope} {x : Str} (h : visB sc x = true) : Vis sc x := by
  unfold visB at h
  split at h
  · rename_i e; exact .inl e
  · rename_i e; exact .inr (.inl e)
  · rename_i e; exact .inr (.inr e)
  · exact absurd h Bool.false_ne_true
theorem FnT.oex_fn {t : FnT} {f : Str} (h : t.oex f = true) {CX : CXT} {P : Program} {w : World} {K : PySem.W.Frag} {mg : Str → Option Value} {base : Heap} {nm q : Str} {pa : Arguments} {fa C : Addr} {fd : FuncData} {k : Nat} (F : FunD K nm q pa t.body t.sc [] [] fa fd) (T : OexC K C) (hno : PySem.W.findIn K (.ref C) f = some none) :
    FnOk P w K mg base CX (k + 1) fa fd t.ps (oexSp C f) := by
  obtain ⟨N, ps, body, sc⟩ := t
  obtain ⟨h0, h⟩ := bb h
  obtain ⟨h1, h⟩ := bb h
  obtain ⟨h2, h⟩ := bb h
  obtain ⟨h3, h⟩ := bb h
  obtain ⟨h4, h⟩ := bb h
  obtain ⟨h5, h⟩ := bb h
  obtain ⟨h6, h7⟩ := bb h
  have h1 : ps = N := of_decide_eq_true h1
  subst h1
  dsimp only at h0 F
  split at h0
  · rename_i y p1 g p2 x p3 pos
    obtain ⟨g0, h0⟩ := bb h0
    obtain ⟨g1, h0⟩ := bb h0
    obtain ⟨g2, h0⟩ := bb h0
    obtain ⟨g3, h0⟩ := bb h0
    obtain ⟨g4, h0⟩ := bb h0
    obtain ⟨g5, h0⟩ := bb h0
    obtain ⟨g6, g7⟩ := bb h0
    have g0 := of_decide_eq_true g0
    have g1 := of_decide_eq_true g1
    subst g0 g1
    rw [List.all_eq_true] at h6 h7
    exact oex_init F ⟨funB_ok h2, nb h3, nb h4, nodupB_ok h5, rfl, fun x hx => (Bool.or_eq_true_iff.mp (h6 x hx)).imp lkB_ok lkB_ok, fun y hy e => by
      have z := h7 y hy
      rw [e] at z
      cases z⟩ T hno (visB_vis g2) (visB_vis g3) (nb g4) (nb g5) (nb g6) (nb g7)
  · exact absurd h0 Bool.false_ne_true
section
variable {G : Sg} {S : Sx} {P : Program} {w : World} {K : PySem.W.Frag} {mg : Str → Option Value} {base : Heap} {B : Nat → Option FnI} {fi : Nat → Str → Option Nat} {sub : Nat → Nat → Bool} {fuel r : Nat}
abbrev tab (B : Nat → Option FnI) (fi : Nat → Str → Option Nat) (sub : Nat → Nat → Bool) (fuel k : Nat) : Tab := ⟨fi, fun f => (B f).bind FnI.cls, callF B fi sub fuel k, fuel, sub⟩
/-- what the written part says -/
structure Facts (G : Sg) (S : Sx) (K : PySem.W.Frag) (mg : Str → Option Value) (B : Nat → Option FnI) (fi : Nat → Str → Option Nat) (sub : Nat → Nat → Bool) : Prop where
  hG : K = G.K
  gi : ∀ p ∈ S.gInts, ∃ t, mg p.1 = some (.int p.2 t)
  gs : ∀ p ∈ S.gStrs, ∃ t, mg p.1 = some (.str p.2 t)
  free : ∀ x ∈ S.free, mg x = none
  cls : ∀ c f, f ∈ G.cf c → Cls K (G.ca c) ∧ NoAttr K (G.ca c) f
  cfS : ∀ c, G.cf c = (S.cf[c]?).getD []
  cfN : ∀ c, (G.cf c).Nodup
  exn : ∀ c x, S.ename[c]? = some x → mg x = some (.ref (G.ea c)) ∧ (c < S.nx → PySem.W.excIn K (G.ea c) He.veBase "ValueError.__new__" = true ∧ PySem.W.keepIn K (.ref (G.ea c)) = true ∧ PySem.W.subIn K (.ref (G.ea c)) (.type "BaseException") = some true ∧ PySem.W.typeIn K (.ref (G.ea c)) = some (.type "type"))
  efS : ∀ c f, S.ef[c]? = some f → G.ef c = f
  hN : ∀ c, S.nx ≤ c → c < S.ename.length → PySem.W.findIn K (.ref (G.ea c)) (G.ef c) = some none
  xin : ∀ c, c < S.ename.length → S.nx ≤ c → ∃ (t : FnT) (nm q : Str) (pa : Arguments) (fa : Addr) (fd : FuncData), t.oex (G.ef c) = true ∧ FunD K nm q pa t.body t.sc [] [] fa fd ∧ OexC K (G.ea c) ∧ PySem.W.findIn K (.ref (G.ea c)) "__init__" = some (some (.ref fa)) ∧ PySem.W.typeIn K (.ref fa) = some (.type "function") ∧ Binds K fd t.ps []
  enE : S.ename.length = G.en
  mem : (G.cf 0)[4]? = some memoF ∧ (G.cf 0).length = 5
  ini : ∀ f c, S.ini[f]? = some (some c) → (B f).bind FnI.cls = some c
  kit : ∀ k c, k < S.ename.length → c < S.ename.length → PySem.W.kitOne K (.ref (G.ea k)) (.ref (G.ea c)) = some (sub k c)
  kitV : ∀ k, k < S.ename.length → PySem.W.kitOne K (.ref (G.ea k)) (.type "ValueError") = some (sub k 1000)
  exm : ∀ k c, k < S.ename.length → c < S.ename.length → PySem.W.exmOne K (.ref (G.ea k)) (.ref (G.ea c)) = some (sub k c)
  hE : ∀ k, k < S.ename.length → ExcC K (G.ea k)
  fiOk : ∀ c y j, fi c y = some j → (G.cf c)[j]? = some y
  qok : ∀ f x, f ∈ S.quiet → S.fname[f]? = some (some x) → ∃ (t : FnT) (b : FnI) (nm q : Str) (pa : Arguments) (fa : Addr) (fd : FuncData), B f = some b ∧ b.cls = none ∧ b.orc = none ∧ t.okQ S b = true ∧ FunD K nm q pa t.body t.sc [] [] fa fd ∧ mg x = some (.ref fa) ∧ Binds K fd t.ps [] := by
    intro f x h
    exact absurd h List.not_mem_nil
  /-- defs -/
  fns : ∀ f x, S.fname[f]? = some (some x) → ∃ (t : FnT) (b : FnI) (nm q : Str) (pa : Arguments) (fa : Addr) (fd : FuncData), B f = some b ∧ b.cls = none ∧ ((b.orc = none ∧ t.ok S b = true) ∨ ∃ F, b.orc = some F ∧ ∀ (P : Program) (w : World) (base : Heap), FnOk P w K mg base (L2.CX P w) 30 fa fd t.ps (fnSp G F)) ∧ FunD K nm q pa t.body t.sc [] [] fa fd ∧ mg x = some (.ref fa) ∧ Binds K fd t.ps []
  mks : ∀ c x f, S.cname[c]? = some x → (B f).bind FnI.cls = some c → ∃ (t : FnT) (b : FnI) (nm q : Str) (pa : Arguments) (fa : Addr) (fd : FuncData), B f = some b ∧ b.cls = some c ∧ b.orc = none ∧ t.ok S b = true ∧ FunD K nm q pa t.body t.sc [] [] fa fd ∧ Mk K (G.ca c) fa ∧ mg x = some (.ref (G.ca c)) ∧ Binds K fd t.ps []
/-- all defs, k calls deep -/
structure Lev (G : Sg) (S : Sx) (P : Program) (w : World) (K : PySem.W.Frag) (mg : Str → Option Value) (base : Heap) (B : Nat → Option FnI) (fi : Nat → Str → Option Nat) (sub : Nat → Nat → Bool) (fuel r k : Nat) : Prop where
  fns : ∀ f x, S.fname[f]? = some (some x) → ∃ fa fd ps, FnOk P w K mg base (L2.CX P w) (r + 1 + 2 * k) fa fd ps (fnSp G (callF B fi sub fuel k f)) ∧ mg x = some (.ref fa) ∧ PySem.W.keepIn K (.ref fa) = true ∧ Binds K fd ps []
  mks : ∀ c x f, S.cname[c]? = some x → (B f).bind FnI.cls = some c → ∃ fa fd ps, Mk K (G.ca c) fa ∧ FnOk P w K mg base (L2.CX P w) (r + 1 + 2 * k) fa fd ps (mkSp G c (callF B fi sub fuel k f)) ∧ mg x = some (.ref (G.ca c)) ∧ Binds K fd ps []
theorem run_len {b : FnI} {T : Tab} {ds : List D} (ho : b.orc = none) (h : b.run T ds ≠ .stk) : ds.length + b.self = b.np := by
  unfold FnI.run at h
  rw [ho] at h
  dsimp only at h
  cases c : decide (ds.length + b.self = b.np) with
  | true => exact of_decide_eq_true c
  | false => rw [c] at h; exact absurd rfl h
theorem run_eq {b : FnI} {T : Tab} {ds : List D} (ho : b.orc = none) (h : ds.length + b.self = b.np) : b.run T ds = (rns T b.body (b.start ds)).bind b.fin := by
  unfold FnI.run
  rw [ho]
  dsimp only
  rw [decide_eq_true h]
  rfl
theorem start_slot {N : List Str} {vs : List V} {A : Addr → Prop} {H : Hp} {ex : ExI} {ds : List D} {n : Nat} (hl : HasL G A H vs ds) {j : Nat} {o : OD} (e : (ds.map sh ++ List.replicate n none)[j]? = some (some o)) : ∃ v, (L2.start N vs)[j]? = some (some v) ∧ SlotOk G ex A (fun _ _ => False) H v o := by
  have hlen := hl.length
  by_cases hj : j < ds.length
  · rw [List.getElem?_append_left (by rw [List.length_map]; exact hj), List.getElem?_map, List.getElem?_eq_getElem hj] at e
    have e : sh ds[j] = some o := Option.some.inj e
    cases e
    obtain ⟨v, e1, e2⟩ := hl.get (List.getElem?_eq_getElem hj)
    refine ⟨v, ?_, e2⟩
    unfold L2.start
    rw [List.getElem?_append_left (by rw [List.length_map]; omega), List.getElem?_map, e1]
    rfl
  · rw [List.getElem?_append_right (by rw [List.length_map]; omega), List.getElem?_replicate] at e
    split at e <;> cases e
/-- a def that may be called anywhere -/
theorem fn_quiet (Fa : Facts G S K mg B fi sub) {k : Nat} {t : FnT} {b : FnI} {nm q : Str} {pa : Arguments} {fa : Addr} {fd : FuncData} (hc : b.cls = none) (ho : b.orc = none) (ht : t.okQ S b = true) (F : FunD K nm q pa t.body t.sc [] [] fa fd) :
    FnP P w K mg base 1 fa fd t.ps (fnSp G fun ds => noExc (b.run (tab B fi sub fuel k) ds)) := by
  obtain ⟨ht, hkq⟩ := bb ht
  obtain ⟨sc, e1, e2, _⟩ := t.ok_scope ht
  have hs : b.self = 0 := by unfold FnI.self; rw [hc]
  have ne : ∀ {vs : List V} {H : Hp} {Q : VK} {E : XK}, fnSp G (fun ds => noExc (b.run (tab B fi sub fuel k) ds)) vs H Q E → ∃ (A : Addr → Prop) (ds : List D), HasL G A H vs ds ∧ ds.length = b.np ∧ (match noExc ((rns (tab B fi sub fuel k) b.body (b.start ds)).bind b.fin) with
      | .ok d => ∀ v H', Same H H' → Has G (fr A H) H' v d → Q v H'
      | .exc _ => False
      | .stk => False) := fun {vs H Q E} h => by
    obtain ⟨A, ds, hl, h⟩ := h
    dsimp only at h
    have hl2 := run_len (b := b) ho (T := tab B fi sub fuel k) (ds := ds) (fun z => by rw [z] at h; exact h)
    rw [hs, Nat.add_zero] at hl2
    rw [run_eq ho (by rw [hs]; exact hl2)] at h
    refine ⟨A, ds, hl, hl2, ?_⟩
    cases er : (rns (tab B fi sub fuel k) b.body (b.start ds)).bind b.fin with
    | ok d => rw [er] at h; exact h
    | exc z => rw [er] at h; exact h
    | stk => rw [er] at h; exact h
  refine fnP_of F sc (fun vs H Q E h => ?_) fun cdv A outer s H vs Q E z hr h => ?_
  · obtain ⟨A, ds, hl, hn, _⟩ := ne h
    rw [hl.length, hn, e2]
  · obtain ⟨A₀, ds, hl, hn, h⟩ := ne h
    have py : PY G { t.S S with quiet := [] } (tab B fi sub fuel k) (L2H.cxH (L2.CX P w) P w K mg base t.N q t.sc fa cdv A outer s H E z) ⟨t.sc, fun _ => true, false⟩ noW ⟨none, (0, 0)⟩ := {
      px := {
        hG := Fa.hG
        calm := fun z => absurd z (fun h => nomatch h)
        fnE := rfl
        un := by
          have := hr.un
          show (A.deeper _).units + 64 < _
          omega
        nm := rfl
        nd := sc.nd
        esc := rfl
        tk := takes0
        fns := fun z => absurd z (fun h => nomatch h)
        mks := fun z => absurd z (fun h => nomatch h)
        gi := Fa.gi
        gs := Fa.gs
        free := Fa.free
        cls := Fa.cls
        cfS := Fa.cfS
        cfN := Fa.cfN
        exn := Fa.exn
        efS := Fa.efS
        xin := fun z => absurd z (fun h => nomatch h)
        enE := Fa.enE
        ini := Fa.ini
        kit := Fa.kit
        kitV := Fa.kitV
        isx := fun _ a cls d e => nomatch e
        xfx := fun _ a cls d e => nomatch e
        qf := fun f x h => absurd h List.not_mem_nil
        pin := fun _ => ⟨z, List.mem_singleton.mpr rfl⟩
        exm := Fa.exm }
      pass := fun z => absurd z (fun h => nomatch h)
      hE := Fa.hE
      hN := Fa.hN
      hs := fun z => absurd z (fun h => nomatch h)
      hf := fun z => absurd z (fun h => nomatch h) }
    refine ⟨_, sndSs b.body t.body false _ ⟨t.sc, fun _ => true, false⟩ noW ⟨none, (0, 0)⟩ A₀ H hkq py ⟨Fa.fiOk⟩ fun _ => rfl, ?_⟩
    have hst : b.start ds = ds.map sh ++ List.replicate (b.n - b.np) none := by unfold FnI.start; rw [hc]
    refine ⟨A₀, fun _ _ _ => False, b.start ds, ⟨?_, fun j o e => ?_, fun _ _ _ z => z.elim, fun _ _ _ _ _ z => z.elim, fun q z => .inl z, Same.refl H⟩, ?_⟩
    · rw [hst]
      unfold L2.start
      rw [List.length_append, List.length_map, List.length_replicate, List.length_append, List.length_map, List.length_replicate, hl.length, hn, e1]
    · rw [hst] at e
      exact start_slot hl e
    · cases er : rns (tab B fi sub fuel k) b.body (b.start ds) with
      | stk => rw [er] at h; exact h
      | exc x => rw [er] at h; exact h.elim
      | ok f =>
        rw [er] at h
        have hf : ∀ f, b.fin f = (match f with
            | .nx _ => .ok .non
            | .rt d _ => .ok d
            | _ => .stk) := fun f => by
          unfold FnI.fin
          rw [hc]
          cases f <;> rfl
        have h : (match noExc (b.fin f) with
          | .ok d => ∀ v H', Same H H' → Has G (fr A₀ H) H' v d → Q v H'
          | .exc _ => False
          | .stk => False) := h
        rw [hf] at h
        cases f with
        | nx ρ' => exact fun A' O' σ' H' er' _ => h .non H' er'.same .non
        | rt d ρ' => exact fun v A' O' σ' H' er' _ hv => h v H' er'.same (hv.mono er'.sub (Same.refl _))
        | bk ρ' => exact h.elim
        | ct ρ' => exact h.elim
theorem quiet_ok (Fa : Facts G S K mg B fi sub) {k f : Nat} {x : Str} (hq : f ∈ S.quiet) (hx : S.fname[f]? = some (some x)) : ∃ fa fd ps, FnP P w K mg base 1 fa fd ps (fnSp G fun ds => noExc (callF B fi sub fuel k f ds)) ∧ mg x = some (.ref fa) ∧ PySem.W.keepIn K (.ref fa) = true ∧ Binds K fd ps [] := by
  obtain ⟨t, b, nm, q, pa, fa, fd, hB, hc, ho, ht, F, hm, hb⟩ := Fa.qok f x hq hx
  refine ⟨fa, fd, t.ps, ?_, hm, F.kp, hb⟩
  cases k with
  | zero =>
    have no : ∀ vs H Q E, fnSp G (fun ds => noExc (callF B fi sub fuel 0 f ds)) vs H Q E → False := fun vs H Q E ⟨A, ds, _, h⟩ => h
    exact ⟨fun vs H Q E h => (no _ _ _ _ h).elim, fun A up s H ar us vs Q E z _ _ _ _ _ h => (no _ _ _ _ h).elim⟩
  | succ k =>
    have e : (fun ds => noExc (callF B fi sub fuel (k + 1) f ds)) = fun ds => noExc (b.run (tab B fi sub fuel k) ds) := by
      funext ds
      rw [callF, hB]
    rw [e]
    exact fn_quiet Fa hc ho ht F
theorem py_of (Fa : Facts G S K mg B fi sub) {k : Nat} (Lv : Lev G S P w K mg base B fi sub fuel r k) {t : FnT} (hn : t.N.Nodup) {q : Str} {f : Addr} {cdv : Value} {A : Around} {outer : List PySem.Env} {s : Shared} {H : Hp} {E : XK}
    (hr : Room (r + 1 + 2 * k + 1) (A.deeper (envOfC q t.sc s.heap.objs.size f cdv))) (sf : Addr × Addr) : PY G (t.S S) (tab B fi sub fuel k) (cxOf (L2.CX P w) P w K mg base t.N q t.sc f cdv A outer s H E) t.L (fun cls d _ H => E cls d H) ⟨none, sf⟩ where
  px := {
    hG := Fa.hG
    calm := fun _ => rfl
    fnE := rfl
    un := hr.units
    nm := rfl
    nd := hn
    esc := rfl
    tk := takes_of rfl rfl rfl rfl
    fns := fun _ g x hx => by
      obtain ⟨fa, fd, ps, h1, h2, h3, h4⟩ := Lv.fns g x hx
      exact ⟨fa, fd, ps, _, h1, hr.mono (by omega), h2, h3, h4⟩
    mks := fun _ c x g hx hi => by
      obtain ⟨fa, fd, ps, h1, h2, h3, h4⟩ := Lv.mks c x g hx hi
      exact ⟨fa, fd, ps, _, h1, h2, hr, h3, h4⟩
    gi := Fa.gi
    gs := Fa.gs
    free := Fa.free
    cls := Fa.cls
    cfS := Fa.cfS
    cfN := Fa.cfN
    exn := Fa.exn
    efS := Fa.efS
    xin := fun _ c hc hn => by
      obtain ⟨t, nm, q, pa, fa, fd, h1, h2, h3, h4, h5, h6⟩ := Fa.xin c hc hn
      exact ⟨fa, fd, t.ps, 1, h3, h4, h5, t.oex_fn (k := 0) h1 h2 h3 (Fa.hN c hn hc), hr.mono (by omega), h6⟩
    enE := Fa.enE
    ini := Fa.ini
    kit := Fa.kit
    kitV := Fa.kitV
    isx := fun z => absurd z (fun h => nomatch h)
    xfx := fun z => absurd z (fun h => nomatch h)
    qf := fun f x h1 h2 => by
      obtain ⟨fa, fd, ps, h3, h4, h5, h6⟩ := quiet_ok (P := P) (w := w) (base := base) (fuel := fuel) (k := k) Fa h1 h2
      exact ⟨fa, fd, ps, 1, h3, L2H.roomH_of (hr.mono (by omega)), h4, h5, h6⟩
    pin := fun z => absurd z (fun h => nomatch h)
    exm := Fa.exm }
  pass := fun _ => passes_of rfl
  hE := Fa.hE
  hN := Fa.hN
  hs := fun _ => rfl
  hf := fun _ => rfl
/-- a plain def -/
theorem fn_of_def (Fa : Facts G S K mg B fi sub) {k : Nat} (Lv : Lev G S P w K mg base B fi sub fuel r k) {t : FnT} {b : FnI} {nm q : Str} {pa : Arguments} {fa : Addr} {fd : FuncData} (hc : b.cls = none) (ho : b.orc = none) (ht : t.ok S b = true) (F : FunD K nm q pa t.body t.sc [] [] fa fd) :
    FnOk P w K mg base (L2.CX P w) (r + 1 + 2 * k + 2) fa fd t.ps (fnSp G (b.run (tab B fi sub fuel k))) := by
  obtain ⟨sc, e1, e2, hk⟩ := t.ok_scope ht
  have hs : b.self = 0 := by unfold FnI.self; rw [hc]
  have ne : ∀ {vs : List V} {H : Hp} {Q : VK} {E : XK}, fnSp G (b.run (tab B fi sub fuel k)) vs H Q E → ∃ (A : Addr → Prop) (ds : List D), HasL G A H vs ds ∧ ds.length = b.np ∧ (match (rns (tab B fi sub fuel k) b.body (b.start ds)).bind b.fin with
      | .ok d => ∀ v H', Same H H' → Has G (fr A H) H' v d → Q v H'
      | .exc x => ∀ cls dx H', Same H H' → XR G H' x cls dx → E cls dx H'
      | .stk => False) := fun {vs H Q E} h => by
    obtain ⟨A, ds, hl, h⟩ := h
    have hl2 := run_len (b := b) ho (T := tab B fi sub fuel k) (ds := ds) (fun z => by rw [z] at h; exact h)
    rw [hs, Nat.add_zero] at hl2
    rw [run_eq ho (by rw [hs]; exact hl2)] at h
    exact ⟨A, ds, hl, hl2, h⟩
  refine F.ok sc (fun vs H Q E h => ?_) fun cdv A outer s H vs Q E hr h => ?_
  · obtain ⟨A, ds, hl, hn, _⟩ := ne h
    rw [hl.length, hn, e2]
  · obtain ⟨A₀, ds, hl, hn, h⟩ := ne h
    refine ⟨_, sndSs b.body t.body false _ t.L _ ⟨none, (0, 0)⟩ A₀ H hk (py_of Fa Lv sc.nd hr (0, 0)) ⟨Fa.fiOk⟩ fun _ => rfl, ?_⟩
    have hst : b.start ds = ds.map sh ++ List.replicate (b.n - b.np) none := by unfold FnI.start; rw [hc]
    refine ⟨A₀, fun _ _ _ => False, b.start ds, ⟨?_, fun j o e => ?_, fun _ _ _ z => z.elim, fun _ _ _ _ _ z => z.elim, fun q z => .inl z, Same.refl H⟩, ?_⟩
    · rw [hst]
      unfold L2.start
      rw [List.length_append, List.length_map, List.length_replicate, List.length_append, List.length_map, List.length_replicate, hl.length, hn, e1]
    · rw [hst] at e
      exact start_slot hl e
    · cases er : rns (tab B fi sub fuel k) b.body (b.start ds) with
      | stk => rw [er] at h; exact h
      | exc x =>
        rw [er] at h
        exact fun cls dx σ' H' s' _ xr => h cls dx H' s' xr
      | ok f =>
        rw [er] at h
        have hf : ∀ f, b.fin f = (match f with
            | .nx _ => .ok .non
            | .rt d _ => .ok d
            | _ => .stk) := fun f => by
          unfold FnI.fin
          rw [hc]
          cases f <;> rfl
        have h : (match b.fin f with
          | .ok d => ∀ v H', Same H H' → Has G (fr A₀ H) H' v d → Q v H'
          | .exc x => ∀ cls dx H', Same H H' → XR G H' x cls dx → E cls dx H'
          | .stk => False) := h
        rw [hf] at h
        cases f with
        | nx ρ' => exact fun A' O' σ' H' er' _ => h .non H' er'.same .non
        | rt d ρ' => exact fun v A' O' σ' H' er' _ hv => h v H' er'.same (hv.mono er'.sub (Same.refl _))
        | bk ρ' => exact h.elim
        | ct ρ' => exact h.elim
/-- an __init__ -/
theorem fn_of_init (Fa : Facts G S K mg B fi sub) {k : Nat} (Lv : Lev G S P w K mg base B fi sub fuel r k) {t : FnT} {b : FnI} {nm q : Str} {pa : Arguments} {fa : Addr} {fd : FuncData} {c : Nat} (hc : b.cls = some c) (ho : b.orc = none) (ht : t.ok S b = true) (F : FunD K nm q pa t.body t.sc [] [] fa fd) :
    FnOk P w K mg base (L2.CX P w) (r + 1 + 2 * k + 2) fa fd t.ps (mkSp G c (b.run (tab B fi sub fuel k))) := by
  obtain ⟨sc, e1, e2, hk⟩ := t.ok_scope ht
  have hs : b.self = 1 := by unfold FnI.self; rw [hc]
  have ne : ∀ {vs : List V} {H : Hp} {Q : VK} {E : XK}, mkSp G c (b.run (tab B fi sub fuel k)) vs H Q E → ∃ (A : Addr → Prop) (ds : List D) (x dx : Addr) (ws : List V) (H₁ : Hp), vs = .ref x :: ws ∧ H₁ x = none ∧ H₁ dx = none ∧ dx ≠ x ∧ H = upd (upd H₁ dx (.own x)) x (.ins (G.ca c) dx []) ∧ HasL G A H₁ ws ds ∧ ds.length + 1 = b.np ∧
      (match (rns (tab B fi sub fuel k) b.body (b.start ds)).bind b.fin with
      | .ok d => ∀ H', Same H₁ H' → Has G (fr A H₁) H' (.ref x) d → Q .non H'
      | .exc e => ∀ cls dx H', Same H₁ H' → XR G H' e cls dx → E cls dx H'
      | .stk => False) := fun {vs H Q E} h => by
    obtain ⟨A, ds, x, dx, ws, H₁, h1, h2, h3, h4, h5, hl, h⟩ := h
    have hl2 := run_len (b := b) ho (T := tab B fi sub fuel k) (ds := ds) (fun z => by rw [z] at h; exact h)
    rw [hs] at hl2
    rw [run_eq ho (by rw [hs]; exact hl2)] at h
    exact ⟨A, ds, x, dx, ws, H₁, h1, h2, h3, h4, h5, hl, hl2, h⟩
  refine F.ok sc (fun vs H Q E h => ?_) fun cdv A outer s H vs Q E hr h => ?_
  · obtain ⟨A, ds, x, dx, ws, H₁, rfl, h2, h3, h4, h5, hl, hn, _⟩ := ne h
    rw [List.length_cons, hl.length, hn, e2]
  · obtain ⟨A₀, ds, x, dx, ws, H₁, rfl, h2, h3, h4, rfl, hl, hn, h⟩ := ne h
    refine ⟨_, pss_wk (sndSs b.body t.body false _ t.L _ ⟨none, (x, dx)⟩ A₀ H₁ hk (py_of Fa Lv sc.nd hr (x, dx)) ⟨Fa.fiOk⟩ fun _ => rfl), ?_⟩
    have hst : b.start ds = some (.oo c []) :: (ds.map sh ++ List.replicate (b.n - b.np) none) := by unfold FnI.start; rw [hc]
    have sm : Same H₁ (upd (upd H₁ dx (.own x)) x (.ins (G.ca c) dx [])) := fun p o e => by
      rw [upd_ne (ne_of_none e h2), upd_ne (ne_of_none e h3)]
      exact e
    have hl' : HasL G (fun q => A₀ q ∧ (H₁ q).isSome = true) (upd (upd H₁ dx (.own x)) x (.ins (G.ca c) dx [])) ws ds := hl.there.mono (fun _ z => z) sm
    have stv : L2.start t.N (.ref x :: ws) = some (.ref x) :: (ws.map some ++ List.replicate (t.N.length - (ws.length + 1)) none) := by
      unfold L2.start
      rw [List.map_cons, List.length_cons]
      rfl
    refine ⟨fun q => A₀ q ∧ (H₁ q).isSome = true, fun j k p => j = 0 ∧ k = 0 ∧ p = x, b.start ds, ⟨?_, fun j o e => ?_, fun j k p ⟨_, _, z⟩ => ?_, fun j k j' k' p z z' => ⟨by rw [z.1, z'.1], by rw [z.2.1, z'.2.1]⟩, fun q z => .inl z.1, sm⟩, ?_⟩
    · rw [hst, stv]
      rw [List.length_cons, List.length_cons, List.length_append, List.length_map, List.length_replicate, List.length_append, List.length_map, List.length_replicate, hl.length, e1]
      omega
    · rw [hst] at e
      rw [stv]
      cases j with
      | zero =>
        cases e
        exact ⟨_, rfl, x, dx, [], ⟨rfl, rfl⟩, ⟨rfl, rfl, rfl⟩, upd_same, by simp, rfl, fun i o w e1 => by simp at e1⟩
      | succ j =>
        rw [List.getElem?_cons_succ] at e
        obtain ⟨v, v1, v2⟩ := start_slot (N := t.N.drop 1) (ex := ⟨none, (x, dx)⟩) hl' e
        refine ⟨v, ?_, v2.to (Same.refl _) (fun _ z _ => z) fun _ _ z => z.elim⟩
        rw [List.getElem?_cons_succ]
        unfold L2.start at v1
        rw [List.length_drop] at v1
        rw [show t.N.length - (ws.length + 1) = t.N.length - 1 - ws.length by omega]
        exact v1
    · subst z
      exact ⟨fun z => by rw [h2] at z; exact absurd z.2 Bool.false_ne_true, by rw [upd_same]; rfl, h2⟩
    · cases er : rns (tab B fi sub fuel k) b.body (b.start ds) with
      | stk => rw [er] at h; exact h
      | exc e =>
        rw [er] at h
        exact fun cls dx σ' H' s' _ xr => h cls dx H' s' xr
      | ok f =>
        rw [er] at h
        have hf : ∀ f, b.fin f = (match f with
            | .nx ρ => finO ρ
            | .rt .non ρ => finO ρ
            | _ => .stk) := fun f => by
          unfold FnI.fin
          rw [hc]
          cases f with
          | rt d ρ => cases d <;> rfl
          | _ => rfl
        have h : (match b.fin f with
          | .ok d => ∀ H', Same H₁ H' → Has G (fr A₀ H₁) H' (.ref x) d → Q .non H'
          | .exc e => ∀ cls dx H', Same H₁ H' → XR G H' e cls dx → E cls dx H'
          | .stk => False) := h
        rw [hf] at h
        have fin : ∀ ρ' A' O' σ' H', ER G ⟨none, (x, dx)⟩ A₀ H₁ A' O' σ' H' ρ' → (match finO ρ' with
          | .ok d => ∀ H', Same H₁ H' → Has G (fr A₀ H₁) H' (.ref x) d → Q .non H'
          | .exc e => ∀ cls dx H', Same H₁ H' → XR G H' e cls dx → E cls dx H'
          | .stk => False) → OwnOk H' → ∃ H'', RW H' H'' ∧ Q .non H'' := fun ρ' A' O' σ' H' er' hh ow => by
          unfold finO at hh
          split at hh
          · rename_i d heq
            split at heq
            · rename_i fs e0
              obtain ⟨hm, heq⟩ := guardR_ok heq
              cases heq
              exact memo_end Fa.mem h2 h3 er' e0 hm ow hh
            · rename_i c' fs e0
              cases heq
              obtain ⟨v, v1, v2⟩ := er'.slot 0 _ (slotE_some e0)
              have v3 := SlotOk.has (o := .oo (c' + 1) fs) rfl v2
              obtain ⟨p, dx', fl, ⟨rfl, hp⟩, _⟩ := v2
              obtain ⟨rfl, rfl⟩ := Prod.mk.inj hp
              refine ⟨H', .inl rfl, hh H' er'.same (v3.mono (fun q z => ?_) (Same.refl _))⟩
              rcases z with z | ⟨k, z⟩
              · exact er'.sub q z
              · exact .inr (er'.own _ _ _ z).2.2
            · cases heq
          · rename_i heq
            split at heq
            · exact absurd (guardR_exc heq).2 (fun z => nomatch z)
            · cases heq
            · cases heq
          · exact hh.elim
        cases f with
        | nx ρ' => exact fun A' O' σ' H' er' _ => fin ρ' A' O' σ' H' er' h
        | rt d ρ' =>
          intro v A' O' σ' H' er' _ hv
          cases d with
          | non =>
            cases hv
            exact fin ρ' A' O' σ' H' er' h
          | _ => exact h.elim
        | bk ρ' => exact h.elim
        | ct ρ' => exact h.elim
theorem lev (Fa : Facts G S K mg B fi sub) (hor : (∀ f b, B f = some b → b.orc = none) ∨ 29 ≤ r) : ∀ k, Lev G S P w K mg base B fi sub fuel r k
  | 0 => by
    refine ⟨fun f x hx => ?_, fun c x f hx hi => ?_⟩
    · obtain ⟨t, b, nm, q, pa, fa, fd, h1, h2, h3, h4, h5, h6⟩ := Fa.fns f x hx
      refine ⟨fa, fd, t.ps, ⟨fun vs H Q E h => ?_, fun A outer s H args us vs Q E _ _ _ _ h => ?_⟩, h5, h4.kp, h6⟩
      · obtain ⟨_, _, _, h⟩ := h
        exact h.elim
      · obtain ⟨_, _, _, h⟩ := h
        exact h.elim
    · obtain ⟨t, b, nm, q, pa, fa, fd, h1, h2, ho, h3, h4, h5, h6, h7⟩ := Fa.mks c x f hx hi
      refine ⟨fa, fd, t.ps, h5, ⟨fun vs H Q E h => ?_, fun A outer s H args us vs Q E _ _ _ _ h => ?_⟩, h6, h7⟩
      · obtain ⟨_, _, _, _, _, _, _, _, _, _, _, _, h⟩ := h
        exact h.elim
      · obtain ⟨_, _, _, _, _, _, _, _, _, _, _, _, h⟩ := h
        exact h.elim
  | k + 1 => by
    have Lv := lev Fa hor k
    refine ⟨fun f x hx => ?_, fun c x f hx hi => ?_⟩
    · obtain ⟨t, b, nm, q, pa, fa, fd, h1, h2, h3, h4, h5, h6⟩ := Fa.fns f x hx
      have e : callF B fi sub fuel (k + 1) f = b.run (tab B fi sub fuel k) := by
        funext ds
        show (match B f with
          | some f => f.run ⟨fi, fun f => (B f).bind FnI.cls, callF B fi sub fuel k, fuel, sub⟩ ds
          | none => .stk) = _
        rw [h1]
      rw [e]
      rcases h3 with ⟨ho, h3⟩ | ⟨F, ho, h3⟩
      · exact ⟨fa, fd, t.ps, fn_of_def Fa Lv h2 ho h3 h4, h5, h4.kp, h6⟩
      · have hr : 29 ≤ r := hor.elim (fun z => by rw [z f b h1] at ho; cases ho) id
        have e : b.run (tab B fi sub fuel k) = F := by
          funext ds
          unfold FnI.run
          rw [ho]
        rw [e]
        exact ⟨fa, fd, t.ps, (h3 P w base).mono (by omega), h5, h4.kp, h6⟩
    · obtain ⟨t, b, nm, q, pa, fa, fd, h1, h2, ho, h3, h4, h5, h6, h7⟩ := Fa.mks c x f hx hi
      have e : callF B fi sub fuel (k + 1) f = b.run (tab B fi sub fuel k) := by
        funext ds
        show (match B f with
          | some f => f.run ⟨fi, fun f => (B f).bind FnI.cls, callF B fi sub fuel k, fuel, sub⟩ ds
          | none => .stk) = _
        rw [h1]
      rw [e]
      exact ⟨fa, fd, t.ps, h5, fn_of_init Fa Lv h2 ho h3 h4, h6, h7⟩
end
end PD
end

section
set_option Elab.async false
set_option linter.all false
set_option maxRecDepth 100000
set_option maxHeartbeats 1000000
/-! PD, part 17b: `if x.known_knit is None: x.known_knit = bar(x) is None` / `return x.known_knit`. -/
namespace PD
open PySem PySem.Spec PyProof.Rows L2
/-- the def's tree -/
def FnT.knit (t : FnT) (S : Sx) (g : Nat) : Bool := (match t.body with
  | [.If (.Compare (.Attribute (.Name x1 _) z1 _) [.Is] [.Constant .none _ _] _) [.Assign [.Attribute (.Name x2 _) z2 _] (.Compare ea [.Is] [.Constant .none j p] pos) _] [] _, .Return (some (.Attribute (.Name x3 _) z3 _)) _] =>
    decide (t.N = [x1]) && (decide (x2 = x1) && (decide (x3 = x1) && (decide (z1 = memoF) && (decide (z2 = memoF) && (decide (z3 = memoF) && (visB t.sc x1 && (!(x1 == ("__debug__" : Str)) && (!(x1 == ("__classdict__" : Str)) &&
      chk (t.S S) t.L (.isN (.call g (.cons (.var 0) .nil))) (.Compare ea [.Is] [.Constant .none j p] pos)))))))))
  | _ => false) && (decide (t.ps = t.N) && (funB t.sc.kind && (!t.sc.isCoroutine && (!t.sc.isGenerator && (nodupB t.N && ((t.ps.all fun x => lkB (t.sc.names.lookup x) .local || lkB (t.sc.names.lookup x) .cell) && (t.sc.names.all fun y => !kB y.2 .free)))))))
theorem upd_upd {H : Hp} {a : Addr} {o o' : HO} : upd (upd H a o) a o' = upd H a o' := by
  funext b
  by_cases e : b = a
  · subst e; rw [upd_same, upd_same]
  · rw [upd_ne e, upd_ne e, upd_ne e]
theorem upd_id {H : Hp} {a : Addr} {o : HO} (h : H a = some o) : upd H a o = H := by
  funext b
  by_cases e : b = a
  · subst e; rw [upd_same, h]
  · rw [upd_ne e]
section
variable {G : Sg} {S : Sx} {P : Program} {w : World} {K : PySem.W.Frag} {mg : Str → Option Value} {base : Heap} {B : Nat → Option FnI} {fi : Nat → Str → Option Nat} {sub : Nat → Nat → Bool} {fuel : Nat}
theorem knit_fn (Fa : Facts G S K mg B fi sub) (hor : ∀ f b, B f = some b → b.orc = none) {g : Nat} {F : List D → R D} (hF : callF B fi sub fuel 12 g = F) (hk : G.kn = knB F) {t : FnT} (ht : t.knit S g = true) {nm q : Str} {pa : Arguments} {fa : Addr} {fd : FuncData} (FD : FunD K nm q pa t.body t.sc [] [] fa fd) :
    FnOk P w K mg base (L2.CX P w) 30 fa fd t.ps (fnSp G (knF F)) := by
  obtain ⟨N, ps, body, scp⟩ := t
  obtain ⟨h0, h⟩ := bb ht
  clear ht
  dsimp only at h0 FD
  split at h0
  · rename_i x1 pp1 z1 pp2 j0 pp3 pp4 x2 pp5 z2 pp6 ea j p pos pp7 pp8 x3 pp9 z3 pp10 pp11
    obtain ⟨h1, h⟩ := bb h
    obtain ⟨h2, h⟩ := bb h
    obtain ⟨h3, h⟩ := bb h
    obtain ⟨h4, h⟩ := bb h
    obtain ⟨h5, h⟩ := bb h
    obtain ⟨h6, h7⟩ := bb h
    have h1 : ps = N := of_decide_eq_true h1
    subst h1
    obtain ⟨g1, h0⟩ := bb h0
    obtain ⟨g2, h0⟩ := bb h0
    obtain ⟨g3, h0⟩ := bb h0
    obtain ⟨g4, h0⟩ := bb h0
    obtain ⟨g5, h0⟩ := bb h0
    obtain ⟨g6, h0⟩ := bb h0
    obtain ⟨g7, h0⟩ := bb h0
    obtain ⟨g8, h0⟩ := bb h0
    obtain ⟨g9, hck⟩ := bb h0
    have g1 := of_decide_eq_true g1
    have g2 := of_decide_eq_true g2
    have g3 := of_decide_eq_true g3
    have g4 := of_decide_eq_true g4
    have g5 := of_decide_eq_true g5
    have g6 := of_decide_eq_true g6
    subst g1 g2 g3 g4 g5 g6
    rw [List.all_eq_true] at h6 h7
    have sc : FnScope [x3] [x3] scp := ⟨funB_ok h2, nb h3, nb h4, nodupB_ok h5, rfl, fun x hx => (Bool.or_eq_true_iff.mp (h6 x hx)).imp lkB_ok lkB_ok, fun y hy e => by
      have z := h7 y hy
      rw [e] at z
      cases z⟩
    -- what the caller says
    have ne : ∀ {vs : List V} {H : Hp} {Q : VK} {E : XK}, fnSp G (knF F) vs H Q E → ∃ (A : Addr → Prop) (es : List D) (v : V), vs = [v] ∧ Has G A H v (.obj 0 es) ∧ (match (noExc (F [.obj 0 es])).bind fun r => .ok (.bl (isNon r)) with
        | .ok d => ∀ v H', Same H H' → Has G (fr A H) H' v d → Q v H'
        | .exc x => ∀ cls dx H', Same H H' → XR G H' x cls dx → E cls dx H'
        | .stk => False) := fun {vs H Q E} h => by
      obtain ⟨A, ds, hl, h⟩ := h
      obtain ⟨es, rfl⟩ := knF_arg (F := F) (ds := ds) fun z => by rw [z] at h; exact h
      cases hl with
      | cons a b =>
        cases b
        exact ⟨A, es, _, rfl, a, h⟩
    refine FD.ok sc (fun vs H Q E h => ?_) fun cdv A outer s H vs Q E hr h => ?_
    · obtain ⟨_, _, v, rfl, _⟩ := ne h
      rfl
    · obtain ⟨A₀, es, v, ev0, hv, hh⟩ := ne h
      clear h ne
      subst ev0
      have hv' := hv
      cases hv' with
      | obj _ _ _ _ _ z => exact absurd rfl z
      | @bok a C dx fs _ _ k0 k1 k2 k3 kne k4 k5 _ k6 =>
        subst k4
        have Lv : Lev G S P w K mg base B fi sub fuel 1 12 := lev Fa (.inl hor) 12
        have py := py_of Fa Lv (t := ⟨[x3], [x3], [], scp⟩) sc.nd (q := q) (f := fa) (cdv := cdv) (outer := outer) (s := s) (H := H) (E := E) (hr.mono (by decide)) (0, 0)
        have nameE : ∀ pp, PE (cxOf (L2.CX P w) P w K mg base [x3] q scp fa cdv A outer s H E) (.Name x3 pp) (tVar 0) := fun pp => pe_var rfl (visB_vis g7) (nb g8) (nb g9)
        have he := (snd (A₀ := A₀) (H₀ := H) _ _ _ _ _ hck py.px ⟨Fa.fiOk⟩).pe
        refine ⟨_, pss_cons (ps_if (pt_cmp (pc_isN (pe_memo (nameE _) rfl))) (pss_one (ps_memo (nameE _) he (swaps_other rfl _ _))) pss_nil) (pss_one (ps_ret (pe_known (nameE _) rfl))), ?_⟩
        obtain ⟨c1, c2⟩ := Fa.cls 0 memoF (List.mem_of_getElem? Fa.mem.1)
        have hfl : fs.length = 4 := by
          have z := congrArg List.length k5
          rw [Fa.mem.2, List.length_append, List.length_map] at z
          simpa using z
        have nmf : memoF ∉ fs.map Prod.fst := by
          have z := Fa.cfN 0
          rw [← k5] at z
          intro hm
          exact (List.nodup_append.mp z).2.2 _ hm _ (List.mem_singleton.mpr rfl) rfl
        -- the return, the field being filled
        have fin : ∀ H1 β, H1 a = some (bkA a (G.ca 0) dx) → H1 dx = some (bkD dx fs β) → Q (.bl β) H1 → tRet (tKnown K (tVar 0)) { nx := fun _ H' => Q .non H', rt := Q } (start [x3] [V.ref a]) (upd H1 dx (bkK dx fs β)) := fun H1 β e1 e2 hq =>
          ⟨_, rfl, a, _, dx, fs, β, rfl, by rw [upd_ne kne.symm]; exact e1, upd_same, kne, nmf, c1, c2, by rw [upd_upd, upd_id e2]; exact hq⟩
        have ok : ∀ r, F [.obj 0 es] = .ok r → G.kn (.obj 0 es) = isNon r := fun r er => by
          rw [hk]
          have e2 : knF F [.obj 0 es] = .ok (.bl (isNon r)) := by
            show (noExc (F [.obj 0 es])).bind _ = _
            rw [er]
            rfl
          unfold knB
          rw [e2]
        refine ⟨_, rfl, a, _, dx, fs, _, rfl, k2, k3, kne, nmf, c1, c2, ⟨true, rfl, ?_⟩, ⟨false, rfl, ?_⟩⟩
        · -- None: bar is asked
          show ite _ _ _
          rw [if_pos rfl]
          have sl : ∀ (j : Nat) (o : OD), ([sh (.obj 0 es)] : PD.Env)[j]? = some (some o) → ∃ v, (L2.start [x3] [V.ref a])[j]? = some (some v) ∧ SlotOk G ⟨none, (0, 0)⟩ A₀ (fun _ _ => False) H v o := fun j o e => by
            cases j with
            | zero =>
              cases e
              exact ⟨_, rfl, hv⟩
            | succ j => cases e
          have er : ER G ⟨none, (0, 0)⟩ A₀ H A₀ (fun _ _ _ => False) (L2.start [x3] [V.ref a]) H [sh (.obj 0 es)] := ⟨rfl, sl, fun _ _ _ z => z.elim, fun _ _ _ _ _ z => z.elim, fun q z => .inl z, Same.refl H⟩
          refine ⟨A₀, _, _, er, ?_⟩
          have e1 : ev (tab B fi sub fuel 12) (.isN (.call g (.cons (.var 0) .nil))) [sh (.obj 0 es)] = (F [.obj 0 es]).bind fun r => .ok (.bl (isNon r)) := by
            rw [ev, ev, evs, evs, ev]
            show (callF B fi sub fuel 12 g [.obj 0 es]).bind _ = _
            rw [hF]
          rw [e1]
          cases eF : F [.obj 0 es] with
          | stk => rw [eF] at hh; exact hh
          | exc x => rw [eF] at hh; exact hh.elim
          | ok r =>
            rw [eF] at hh
            have hb := ok r eF
            intro y H1 s1 hy _
            cases hy
            have e2 := s1 _ _ k2
            have e3 := s1 _ _ k3
            rw [hb] at e3
            exact ⟨_, rfl, a, _, dx, fs, _, rfl, rfl, e2, e3, kne, nmf, by omega, c1, c2, fin H1 _ e2 e3 (hh _ _ s1 (.bl _))⟩
        · -- known already
          show ite _ _ _
          rw [if_neg Bool.false_ne_true]
          refine fin H _ k2 k3 ?_
          cases eF : F [.obj 0 es] with
          | stk => rw [eF] at hh; exact hh.elim
          | exc x => rw [eF] at hh; exact hh.elim
          | ok r =>
            rw [eF] at hh
            rw [ok r eF]
            exact hh _ _ (Same.refl H) (.bl _)
  · exact absurd h0 Bool.false_ne_true
end
end PD
end

section
set_option Elab.async false
set_option linter.all false
set_option maxRecDepth 100000
set_option maxHeartbeats 4000000
/-! PD, part 18: the head with more facts; the law's end. -/
namespace PD
open PySem PySem.Spec PyProof.Rows L2
/-- what isinstance asks of an own error's class -/
def exB (K : PySem.W.Frag) (x : Str) : Bool :=
  He.eqO (PySem.W.findIn K (.ref (He.ga K x)) "__getattribute__") (some (some (.builtin "BaseException.__getattribute__"))) && (He.eqO (PySem.W.findIn K (.ref (He.ga K x)) "__getattr__") (some none) &&
  (decide (PySem.W.subIn K (.ref (He.ga K x)) (.type "BaseException") = some true) && (PySem.W.hasDictIn K (He.ga K x) && (He.eqO (PySem.W.findIn K (.ref (He.ga K x)) "__class__") (some (some (.builtin "object.__class__"))) &&
  (decide (PySem.W.specialIn K (.builtin "object.__class__") "__get__" = some (some (.builtin "getset_descriptor.__get__"))) && (decide (PySem.W.takesIn K (.builtin "object.__class__") = some true) && decide (PySem.W.mroIn K (He.ga K x) (.type "object") = some true)))))))
theorem exB_ok {K : PySem.W.Frag} {x : Str} (h : exB K x = true) : ExcC K (He.ga K x) := by
  obtain ⟨h1, h⟩ := bb h
  obtain ⟨h2, h⟩ := bb h
  obtain ⟨h3, h⟩ := bb h
  obtain ⟨h4, h⟩ := bb h
  obtain ⟨h5, h⟩ := bb h
  obtain ⟨h6, h⟩ := bb h
  obtain ⟨h7, h8⟩ := bb h
  exact ⟨He.eqO_ok h1, He.eqO_ok h2, of_decide_eq_true h3, h4, He.eqO_ok h5, of_decide_eq_true h6, of_decide_eq_true h7, of_decide_eq_true h8⟩
/-- what the written part says of an own error with an __init__ -/
def oexB (K : PySem.W.Frag) (x f : Str) : Bool := (match K.lookup (He.ga K x) with
  | some ⟨.type "type", _, .cls cd, sl⟩ => (match cd.mro, sl.toList with
    | .ref C' :: bm, [_, _, _, _, some (.builtin n), _] => C' == He.ga K x && (n == "ValueError.__new__" && (!cd.hasDel && (cd.hasDict && PySem.HandSPX.refsVE bm)))
    | _, _ => false)
  | _ => false) && (He.eqO (PySem.W.findIn K (.ref (He.ga K x)) "__setattr__") (some (some (.builtin "object.__setattr__"))) && (decide (PySem.W.subIn K (.ref (He.ga K x)) (.type "BaseException") = some true) && (decide (PySem.W.typeIn K (.ref (He.ga K x)) = some (.type "type")) && (PySem.W.keepIn K (.ref (He.ga K x)) &&
  (He.eqO (PySem.W.findIn K (.ref (He.ga K x)) f) (some none) && (He.eqO (PySem.W.findIn K (.ref (He.ga K x)) "__init__") (some (some (.ref (He.ma K (He.ga K x) "__init__")))) && decide (PySem.W.typeIn K (.ref (He.ma K (He.ga K x) "__init__")) = some (.type "function"))))))))
theorem oexB_ok {K : PySem.W.Frag} {x f : Str} (h : oexB K x f = true) : OexC K (He.ga K x) ∧ PySem.W.findIn K (.ref (He.ga K x)) f = some none ∧ PySem.W.findIn K (.ref (He.ga K x)) "__init__" = some (some (.ref (He.ma K (He.ga K x) "__init__"))) ∧ PySem.W.typeIn K (.ref (He.ma K (He.ga K x) "__init__")) = some (.type "function") := by
  obtain ⟨h1, h⟩ := bb h
  obtain ⟨h2, h⟩ := bb h
  obtain ⟨h3, h⟩ := bb h
  obtain ⟨h4, h⟩ := bb h
  obtain ⟨h5, h⟩ := bb h
  obtain ⟨h6, h⟩ := bb h
  obtain ⟨h7, h8⟩ := bb h
  refine ⟨⟨?_, He.eqO_ok h2, of_decide_eq_true h3, of_decide_eq_true h4, h5⟩, He.eqO_ok h6, He.eqO_ok h7, of_decide_eq_true h8⟩
  split at h1
  · rename_i dd cd sl ho
    split at h1
    · rename_i C' bm k0 k1 k2 k3 n k5 hm hs
      simp only [Bool.and_eq_true, beq_iff_eq, Bool.not_eq_true'] at h1
      obtain ⟨rfl, rfl, hdel, hd, hr⟩ := h1
      obtain ⟨nm, bs, mro, ns, qn, hd', sn, sub, ab, col, del⟩ := cd
      dsimp only at hm hdel hd
      subst hm hdel hd
      have hsl : sl = #[k0, k1, k2, k3, some (.builtin "ValueError.__new__"), k5] := by
        obtain ⟨l⟩ := sl
        simp only at hs
        rw [hs]
      subst hsl
      exact ⟨nm, qn, ns, bs, bm, sn, sub, ab, col, dd, k0, k1, k2, k3, k5, ho, hr⟩
    · cases h1
  · cases h1
def oexsB (K : PySem.W.Frag) (xs : List Str) (fs : List Str) : Bool := (List.range xs.length).all fun k => oexB K (xs.getD k "") (fs.getD k "")
theorem oexsB_ok {K : PySem.W.Frag} {xs fs : List Str} (h : oexsB K xs fs = true) {k : Nat} (hk : k < xs.length) : oexB K (xs.getD k "") (fs.getD k "") = true := List.all_eq_true.mp h k (List.mem_range.mpr hk)
theorem oexs_at {K : PySem.W.Frag} {nx : Nat} {xs fs : List Str} (h : oexsB K (xs.drop nx) (fs.drop nx) = true) {k : Nat} (hn : nx ≤ k) (hk : k < xs.length) : oexB K (xs.getD k "") (fs.getD k "") = true := by
  have e := oexsB_ok h (k := k - nx) (by rw [List.length_drop]; omega)
  have d : ∀ l : List Str, (l.drop nx).getD (k - nx) "" = l.getD k "" := fun l => by
    simp only [List.getD, List.getElem?_drop]
    rw [Nat.add_sub_cancel' hn]
  rw [d, d] at e
  exact e
/-- the errors' classes, two by two -/
def kitB (K : PySem.W.Frag) (sub : Nat → Nat → Bool) (xs : List Str) : Bool := (List.range xs.length).all fun k => (List.range xs.length).all fun c =>
  decide (PySem.W.kitOne K (.ref (He.ga K (xs.getD k ""))) (.ref (He.ga K (xs.getD c ""))) = some (sub k c)) && decide (PySem.W.exmOne K (.ref (He.ga K (xs.getD k ""))) (.ref (He.ga K (xs.getD c ""))) = some (sub k c))
theorem kitB_ok {K : PySem.W.Frag} {sub : Nat → Nat → Bool} {xs : List Str} (h : kitB K sub xs = true) {k c : Nat} (hk : k < xs.length) (hc : c < xs.length) :
    PySem.W.kitOne K (.ref (He.ga K (xs.getD k ""))) (.ref (He.ga K (xs.getD c ""))) = some (sub k c) ∧ PySem.W.exmOne K (.ref (He.ga K (xs.getD k ""))) (.ref (He.ga K (xs.getD c ""))) = some (sub k c) := by
  have h1 := List.all_eq_true.mp (List.all_eq_true.mp h k (List.mem_range.mpr hk)) c (List.mem_range.mpr hc)
  obtain ⟨h2, h3⟩ := bb h1
  exact ⟨of_decide_eq_true h2, of_decide_eq_true h3⟩
def kitVB (K : PySem.W.Frag) (sub : Nat → Nat → Bool) (xs : List Str) : Bool := (List.range xs.length).all fun k => decide (PySem.W.kitOne K (.ref (He.ga K (xs.getD k ""))) (.type "ValueError") = some (sub k 1000))
theorem kitVB_ok {K : PySem.W.Frag} {sub : Nat → Nat → Bool} {xs : List Str} (h : kitVB K sub xs = true) {k : Nat} (hk : k < xs.length) : PySem.W.kitOne K (.ref (He.ga K (xs.getD k ""))) (.type "ValueError") = some (sub k 1000) :=
  of_decide_eq_true (List.all_eq_true.mp h k (List.mem_range.mpr hk))
def moreB (sub : Nat → Nat → Bool) (nx : Nat) (xs fs : List Str) (K : PySem.W.Frag) : Bool := (xs.all fun x => exB K x) && (kitB K sub xs && (kitVB K sub xs && oexsB K (xs.drop nx) (fs.drop nx)))
/-! ### the Hook -/
abbrev AlP : Type := He.AlD × Bool
def obsP (fa : List He.Fa) (fn : List He.DefD) (bs : PySem.W.Frag → Bool) (K : PySem.W.Frag) : AlP := (He.obsD fa fn K, bs K)
def obsPG (n : Nat) (fa : List He.Fa) (fn : List He.DefD) (bs : PySem.W.Frag → Bool) (g : Addr → Option Obj) : AlP := obsP fa fn bs (He.frG g (He.asD g n))
def hookP (n : Nat) (fa : List He.Fa) (fn : List He.DefD) (bs : PySem.W.Frag → Bool) : PySem.W.Hook where
  α := AlP
  obs := fun s => obsPG n fa fn bs s.heap.get?
  val := fun _ => (He.valD fn, true)
  says := fun _ h => ∃ K : PySem.W.Frag, K.In h ∧ He.SaysD fa fn K ∧ bs K = true
  of := fun _ s e => ⟨_, He.frG_in, congrArg (fun z : AlP => z.1) e, congrArg (fun z : AlP => z.2) e⟩
  keeps := fun _ _ _ ⟨K, hK, c⟩ k => ⟨K, PySem.W.Frag.In.keeps hK k, c⟩
theorem obsPG_eq {n : Nat} {fa : List He.Fa} {fn : List He.DefD} {bs : PySem.W.Frag → Bool} {g : Addr → Option Obj} {s : Shared} (h : ∀ a, g a = s.heap.get? a) : obsPG n fa fn bs g = (hookP n fa fn bs).obs s := by
  have e : g = s.heap.get? := funext h
  rw [e] <;> rfl
/-! ### the law's promise -/
theorem law_sp {G : Sg} {F : List D → R D} (h : ∀ ns : List Int, ns.length ≤ 63 → F [.scr (ns.map .int)] = .ok (.bl true)) {K : PySem.W.Frag} (hG : K = G.K) (H : Hp) (a : Addr) (ns : List Int) (hl : ns.length ≤ 63) (hO : Only H) (hS : SqL K H a (ns.map V.int)) :
    fnSp G F [.ref a] H (fun v _ => v = .bl true) fun _ _ _ => False := by
  have hs : Scr G H a (ns.map V.int) := by
    subst hG
    rcases hS with (hS | hS) | hS
    · rcases hO a with z | ⟨o, xs, z⟩
      · rw [z] at hS; cases hS
      · rw [z] at hS; cases hS
    · exact .inl hS
    · exact .inr hS
  have hi : ∀ ns : List Int, HasL G (fun _ => True) H (ns.map V.int) (ns.map D.int) := fun ns => by
    induction ns with
    | nil => exact .nil
    | cons n ns ih => exact .cons (.int n) ih
  refine ⟨fun _ => True, [.scr (ns.map .int)], .cons (.scr hs (hi ns)) .nil, ?_⟩
  rw [h ns hl]
  intro v H' _ hv
  cases hv
  rfl
theorem sub_pass {P : Program} {w : World} : ∀ (H : Hp) (s : Shared) (e : Value) (s' : Shared), L2.CX P w [] H s (fun _ _ _ => False) e s' → False := fun H s e s' h => by
  obtain ⟨_, _, _, _, _, _, _, _, _, _, _, _, z⟩ := h
  exact z
end PD
end

section
set_option Elab.async false
set_option linter.all false
set_option maxRecDepth 100000
set_option maxHeartbeats 0
namespace PD
open PySem PySem.Spec PyProof.Rows L2
/-- a law's end, the classes of errors said world by world -/
theorem walk_ofW {l : PySem.W.OpenLaw} {n k : Nat} {q : Program} {loose : List Str} {XP : (Str → Option Value) → Heap → Prop} {YP : World → Heap → Prop} {d : DefRec} {CX : World → CXT} {x : Str}
    (hn : l.most = some n) (hn2 : n ≤ sizeLine) (hdf : d.params.defaults = []) (hr : Room k callerA)
    (F : ∀ (w : World) (mg : Str → Option Value) (fa : Addr) (h : Heap), YP w h → h.Ns mainGlobals mg → mg d.name = some (.ref fa) →
      ∃ (K : PySem.W.Frag) (fd : FuncData) (sp : Sp), K.In h ∧ (∀ (s : Shared) (u : Value), BindsTo s fd ⟨[u], []⟩ [(x, u)]) ∧
        (∀ (H : Hp) (a : Addr) (ns : List Int), ns.length ≤ n → Only H → SqL K H a (ns.map V.int) → sp [.ref a] H (fun v _ => v = .bl true) fun _ _ _ => False) ∧
        ∀ base : Heap, K.In base → base.Ns mainGlobals mg → FnOk l.prog w K mg base (CX w) k fa fd [x] sp)
    (hCX : ∀ (w : World) (H : Hp) (s : Shared) (e : Value) (s' : Shared), CX w [] H s (fun _ _ _ => False) e s' → False) :
    PySem.W.WalkO q loose XP YP l.row.toRowW d [] (fun f vs => PySem.call f vs) := by
  refine Att.attach_call hn hdf fun w s₀ s₁ mg mb fa o pm cd doc a vs ns G Y ho hd hcd hmg hobj hints hlen hg => ?_
  obtain ⟨K, fd, sp, KX, hb, hsp, hF⟩ := F w mg fa _ Y G.T.g hmg
  exact law_call KX G.T.g G.T.b G.T.builtins G.T.nolimit hg hobj hints (Nat.le_trans hlen hn2) hr hF hb (fun H hO hS => hsp H a ns hlen hO hS) fun H e s' => hCX w H s₁ e s'
end PD
end

section
set_option Elab.async false
set_option linter.all false
set_option maxRecDepth 100000
/-! PD, part 19: how a text of the small language is worked out. -/
namespace PD
open PySem
variable {T : Tab} {ρ ρ' : Env} {a b c e : Ex} {x y z : D}
theorem guardR_t {α : Type} {c : Bool} {r : R α} (h : c = true) : guardR c r = r := by rw [h]; rfl
theorem bindO {α β : Type} {r : R α} {x : α} {f : α → R β} {w : R β} (h : r = .ok x) (h2 : f x = w) : r.bind f = w := by rw [h]; exact h2
theorem bindX {α β : Type} {r : R α} {x : Xc} {f : α → R β} (h : r = .exc x) : r.bind f = .exc x := by rw [h]; rfl
theorem ev_bin {o : BinO} (ha : ev T a ρ = .ok x) (hb : ev T b ρ = .ok y) : ev T (.bin o a b) ρ = binD o x y := bindO ha (bindO hb rfl)
theorem ev_cmp {o : CmpO} (ha : ev T a ρ = .ok x) (hb : ev T b ρ = .ok y) : ev T (.cmp o a b) ρ = cmpD o x y := bindO ha (bindO hb rfl)
theorem ev_idx (ha : ev T a ρ = .ok x) (hb : ev T b ρ = .ok y) : ev T (.idx a b) ρ = idxD x y := bindO ha (bindO hb rfl)
theorem ev_call {f : Nat} {es : Exs} {xs : List D} {r : R D} (h : evs T es ρ = .ok xs) (h2 : T.fn f xs = r) : ev T (.call f es) ρ = r := bindO h h2
theorem ev_mk {c f : Nat} {es : Exs} {xs : List D} {r : R D} (h : evs T es ρ = .ok xs) (h2 : T.fn f xs = r) : ev T (.mk c f es) ρ = r := bindO h h2
theorem ev_bi {f : Blt} {es : Exs} {xs : List D} {r : R D} (h : evs T es ρ = .ok xs) (h2 : biD f xs = r) : ev T (.bi f es) ρ = r := bindO h h2
theorem evs1 (h : ev T a ρ = .ok x) : evs T (.cons a .nil) ρ = .ok [x] := bindO h rfl
theorem evsC {es : Exs} {xs : List D} (h : ev T a ρ = .ok x) (h2 : evs T es ρ = .ok xs) : evs T (.cons a es) ρ = .ok (x :: xs) := bindO h (bindO h2 rfl)
theorem evNot {k : Bool} (h : ev T a ρ = .ok (.bl k)) : ev T (.not a) ρ = .ok (.bl (!k)) := bindO h rfl
theorem ev_and_t {r : R D} (h : ev T a ρ = .ok (.bl true)) (h2 : ev T b ρ = r) : ev T (.and a b) ρ = r := bindO h h2
theorem ev_and_f (h : ev T a ρ = .ok (.bl false)) : ev T (.and a b) ρ = .ok (.bl false) := bindO h rfl
theorem ev_or_f {r : R D} (h : ev T a ρ = .ok (.bl false)) (h2 : ev T b ρ = r) : ev T (.or a b) ρ = r := bindO h h2
theorem ev_or_t (h : ev T a ρ = .ok (.bl true)) : ev T (.or a b) ρ = .ok (.bl true) := bindO h rfl
theorem evAnd {k l : Bool} (h : ev T a ρ = .ok (.bl k)) (h2 : ev T b ρ = .ok (.bl l)) : ev T (.and a b) ρ = .ok (.bl (k && l)) := by
  cases k with
  | false => exact ev_and_f h
  | true => exact ev_and_t h h2
theorem evOr {k l : Bool} (h : ev T a ρ = .ok (.bl k)) (h2 : ev T b ρ = .ok (.bl l)) : ev T (.or a b) ρ = .ok (.bl (k || l)) := by
  cases k with
  | true => exact ev_or_t h
  | false => exact ev_or_f h h2
theorem ev_cmp2 {o o' : CmpO} {k l : Bool} (ha : ev T a ρ = .ok x) (hb : ev T b ρ = .ok y) (h1 : cmpD o x y = .ok (.bl k)) (hc : ev T c ρ = .ok z) (h2 : cmpD o' y z = .ok (.bl l)) : ev T (.cmp2 o o' a b c) ρ = .ok (.bl (k && l)) := by
  refine bindO ha (bindO hb (bindO h1 ?_))
  cases k with
  | false => rfl
  | true => exact bindO hc h2
/-! numbers -/
theorem ltD_i (i j : Int) : ltD (.int i) (.int j) = decide (i < j) := PySem.W.dataLt_int i j
theorem lt_i (i j : Int) : cmpD .lt (.int i) (.int j) = .ok (.bl (decide (i < j))) := by rw [← ltD_i i j]; rfl
theorem gt_i (i j : Int) : cmpD .gt (.int i) (.int j) = .ok (.bl (decide (j < i))) := by rw [← ltD_i j i]; rfl
theorem le_i (i j : Int) : cmpD .le (.int i) (.int j) = .ok (.bl (!decide (j < i))) := by rw [← ltD_i j i]; rfl
theorem ge_i (i j : Int) : cmpD .ge (.int i) (.int j) = .ok (.bl (!decide (i < j))) := by rw [← ltD_i i j]; rfl
theorem eqD_i (i j : Int) : eqD (.int i) (.int j) = decide (i = j) := by
  by_cases h : i = j
  · subst h
    rw [decide_eq_true rfl]
    exact beq_self_eq_true i
  · rw [decide_eq_false h]
    exact beq_eq_false_iff_ne.mpr h
theorem eq_i (i j : Int) : cmpD .eq (.int i) (.int j) = .ok (.bl (decide (i = j))) := by
  rw [← eqD_i i j]; rfl
theorem ne_i (i j : Int) : cmpD .ne (.int i) (.int j) = .ok (.bl (!decide (i = j))) := by
  rw [← eqD_i i j]; rfl
theorem mul_i {i j : Int} (h : mulOk i j = true) : binD .mul (.int i) (.int j) = .ok (.int (i * j)) := guardR_t h
theorem mod_i {i j : Int} (h : 0 < j) : binD .mod (.int i) (.int j) = .ok (.int (i % j)) := guardR_t (decide_eq_true h)
theorem fdiv_i {i j : Int} (h : 0 < j) (h2 : j.natAbs.log2 < 9000) : binD .fdiv (.int i) (.int j) = .ok (.int (i / j)) := guardR_t (by rw [decide_eq_true h, decide_eq_true h2]; rfl)
theorem ev_add {i j : Int} (ha : ev T a ρ = .ok (.int i)) (hb : ev T b ρ = .ok (.int j)) : ev T (.bin .add a b) ρ = .ok (.int (i + j)) := (ev_bin ha hb).trans rfl
theorem ev_sub {i j : Int} (ha : ev T a ρ = .ok (.int i)) (hb : ev T b ρ = .ok (.int j)) : ev T (.bin .sub a b) ρ = .ok (.int (i - j)) := (ev_bin ha hb).trans rfl
theorem ev_mul {i j : Int} (ha : ev T a ρ = .ok (.int i)) (hb : ev T b ρ = .ok (.int j)) (h : mulOk i j = true) : ev T (.bin .mul a b) ρ = .ok (.int (i * j)) := (ev_bin ha hb).trans (mul_i h)
theorem ev_mod {i j : Int} (ha : ev T a ρ = .ok (.int i)) (hb : ev T b ρ = .ok (.int j)) (h : 0 < j) : ev T (.bin .mod a b) ρ = .ok (.int (i % j)) := (ev_bin ha hb).trans (mod_i h)
theorem ev_fdiv {i j : Int} (ha : ev T a ρ = .ok (.int i)) (hb : ev T b ρ = .ok (.int j)) (h : 0 < j) (h2 : j.natAbs.log2 < 9000) : ev T (.bin .fdiv a b) ρ = .ok (.int (i / j)) := (ev_bin ha hb).trans (fdiv_i h h2)
theorem ev_lt {i j : Int} (ha : ev T a ρ = .ok (.int i)) (hb : ev T b ρ = .ok (.int j)) : ev T (.cmp .lt a b) ρ = .ok (.bl (decide (i < j))) := (ev_cmp ha hb).trans (lt_i i j)
theorem ev_gt {i j : Int} (ha : ev T a ρ = .ok (.int i)) (hb : ev T b ρ = .ok (.int j)) : ev T (.cmp .gt a b) ρ = .ok (.bl (decide (j < i))) := (ev_cmp ha hb).trans (gt_i i j)
theorem ev_ge {i j : Int} (ha : ev T a ρ = .ok (.int i)) (hb : ev T b ρ = .ok (.int j)) : ev T (.cmp .ge a b) ρ = .ok (.bl (!decide (i < j))) := (ev_cmp ha hb).trans (ge_i i j)
theorem ev_eq {i j : Int} (ha : ev T a ρ = .ok (.int i)) (hb : ev T b ρ = .ok (.int j)) : ev T (.cmp .eq a b) ρ = .ok (.bl (decide (i = j))) := (ev_cmp ha hb).trans (eq_i i j)
theorem ev_ne {i j : Int} (ha : ev T a ρ = .ok (.int i)) (hb : ev T b ρ = .ok (.int j)) : ev T (.cmp .ne a b) ρ = .ok (.bl (!decide (i = j))) := (ev_cmp ha hb).trans (ne_i i j)
theorem small_of {i : Int} (h : -(2 ^ 64) < i) (h2 : i < 2 ^ 64) : small i = true := by
  show (decide _ && decide _) = true
  rw [decide_eq_true h, decide_eq_true h2]; rfl
theorem mulOk_l {i j : Int} (h : small i = true) : mulOk i j = true := by
  show (small i || small j || _) = true
  rw [h]; rfl
theorem mulOk_r {i j : Int} (h : small j = true) : mulOk i j = true := by
  show (small i || small j || _) = true
  rw [h]; cases small i <;> rfl
theorem mulOk_log {i j : Int} (h : i.natAbs.log2 + j.natAbs.log2 < 1000000) : mulOk i j = true := by
  show (small i || small j || decide _) = true
  rw [decide_eq_true h]; cases small i <;> cases small j <;> rfl
theorem log_of {i : Int} {n : Nat} (h0 : 0 ≤ i) (h : i < 2 ^ n) (hn : 0 < n) : i.natAbs.log2 < n := by
  have h1 : i.natAbs < 2 ^ n := by
    have : (i.natAbs : Int) = i := Int.natAbs_of_nonneg h0
    have h2 : ((i.natAbs : Int)) < ((2 ^ n : Nat) : Int) := by rw [this, Int.natCast_pow]; exact h
    exact Int.ofNat_lt.mp h2
  by_cases hz : i.natAbs = 0
  · rw [hz]; simpa using hn
  · exact (Nat.log2_lt hz).mpr h1
theorem log_small {i : Int} (h0 : 0 ≤ i) (h : i < 2 ^ 64) : i.natAbs.log2 < 9000 := Nat.lt_of_lt_of_le (log_of (n := 64) h0 h (by decide)) (by decide)
theorem at_ok {α : Type} {xs : List α} {i : Nat} {x : α} (h : xs[i]? = some x) : L2.atI xs (i : Int) = some x := by
  have hi : i < xs.length := (List.getElem?_eq_some_iff.mp h).1
  have : L2.ixN xs.length (i : Int) = some i := by
    unfold L2.ixN
    rw [if_pos (Int.natCast_nonneg i), if_pos (Int.ofNat_lt.mpr hi)]
    rfl
  unfold L2.atI
  rw [this]
  exact h
theorem idx_l {xs : List D} {i : Nat} {x : D} (h : xs[i]? = some x) : idxD (.lst xs) (.int (i : Int)) = .ok x := by
  show R.ofO (L2.atI xs (i : Int)) = _
  rw [at_ok h]; rfl
theorem idx_s {xs : List D} {i : Nat} {x : D} (h : xs[i]? = some x) : idxD (.scr xs) (.int (i : Int)) = .ok x := by
  show R.ofO (L2.atI xs (i : Int)) = _
  rw [at_ok h]; rfl
/-! statements -/
theorem stepB {α : Type} {s : St} {r : Sts} {X : R α} {g : Fl → R α} (h : rn T s ρ = .ok (.nx ρ')) (h2 : (rns T r ρ').bind g = X) : (rns T (.cons s r) ρ).bind g = X := by
  show ((rn T s ρ).bind _).bind g = X
  rw [h]; exact h2
theorem stp {s : St} {r : Sts} {X : R Fl} (h : rn T s ρ = .ok (.nx ρ')) (h2 : rns T r ρ' = X) : rns T (.cons s r) ρ = X := bindO h h2
theorem keepR_id {rs : List Nat} (h : unown ρ rs = ρ) : keepR ρ rs x = ρ := by
  unfold keepR
  split
  · rfl
  · exact h
theorem keepN_id {rs : List Nat} {f : Bool} (h : unown ρ rs = ρ) : keepN f ρ rs x = ρ := by
  unfold keepN keepRs
  split
  · split
    · rfl
    · exact h
  · exact keepR_id h
theorem rn_asg {i : Nat} (he : ev T e ρ = .ok x) (hu : unown ρ (roots e) = ρ) (hf : ownO (frs e) x = .sh x) (hi : decide (i < ρ.length) = true) : rn T (.asg (.n i) e) ρ = .ok (.nx (ρ.set i (sh x))) := by
  refine bindO he ?_
  rw [keepN_id hu, hf]
  exact guardR_t hi
theorem rn_if_t {s1 s2 : Sts} {X : R Fl} (he : ev T c ρ = .ok (.bl true)) (h : rns T s1 ρ = X) : rn T (.ife c s1 s2) ρ = X := bindO he h
theorem rn_if_f {s1 s2 : Sts} {X : R Fl} (he : ev T c ρ = .ok (.bl false)) (h : rns T s2 ρ = X) : rn T (.ife c s1 s2) ρ = X := bindO he h
theorem rn_if_n {s1 : Sts} (he : ev T c ρ = .ok (.bl false)) : rn T (.ife c s1 .nil) ρ = .ok (.nx ρ) := bindO he rfl
theorem ret_l {s : Sts} {d : D} (he : ev T e ρ = .ok d) : ∃ ρ', rns T (.cons (.ret e) s) ρ = .ok (.rt d ρ') := ⟨_, bindO (bindO he rfl) rfl⟩
theorem ret_b {s : Sts} {d : D} {X : R D} {g : Fl → R D} (he : ev T e ρ = .ok d) (h : ∀ ρ', g (.rt d ρ') = X) : (rns T (.cons (.ret e) s) ρ).bind g = X := by
  obtain ⟨ρ', h1⟩ := ret_l (s := s) he
  rw [h1]; exact h ρ'
theorem callF_run {B : Nat → Option FnI} {fi : Nat → Str → Option Nat} {sub : Nat → Nat → Bool} {fuel k g : Nat} {ds : List D} {f : FnI} {ρ : Env} {X : R D} (hB : B g = some f) (hs : decide (ds.length + f.self = f.np) = true) (hst : f.start ds = ρ)
    (h : (rns ⟨fi, fun f => (B f).bind FnI.cls, callF B fi sub fuel k, fuel, sub⟩ f.body ρ).bind f.fin = X) (ho : f.orc = none := by rfl) : callF B fi sub fuel (k + 1) g ds = X := by
  subst hst
  rw [callF, hB]
  show f.run _ ds = X
  rw [FnI.run, ho]
  dsimp only
  rw [hs]
  exact h
theorem rn_par {i j : Nat} (ha : ev T a ρ = .ok x) (hb : ev T b ρ = .ok y) (h : (decide (i < ρ.length) && decide (j < ρ.length) && (froz x && froz y)) = true) : rn T (.par i j a b) ρ = .ok (.nx ((ρ.set i (sh x)).set j (sh y))) := by
  rw [Bool.and_eq_true, Bool.and_eq_true (a := froz x)] at h
  have k1 : keepR ρ (roots a) x = ρ := by unfold keepR; rw [h.2.1]
  have k2 : keepR ρ (roots b) y = ρ := by unfold keepR; rw [h.2.2]
  rw [rn]
  refine bindO ha ?_
  try dsimp only
  rw [k1]
  refine bindO hb ?_
  try dsimp only
  rw [k2]
  exact guardR_t h.1
theorem rn_exp (he : ev T e ρ = .ok x) : rn T (.exp e) ρ = .ok (.nx ρ) := bindO he rfl
theorem rn_exp_x {w : Xc} (he : ev T e ρ = .exc w) : rn T (.exp e) ρ = .exc w := bindX he
theorem rn_asgt {gs : Tgs} (he : ev T e ρ = .ok x) (hu : unown ρ (roots e) = ρ) (hb : bindT (.t gs) x ρ = .ok ρ') : rn T (.asg (.t gs) e) ρ = .ok (.nx ρ') := by
  refine bindO he ?_
  rw [keepR_id hu]
  exact bindO hb rfl
theorem cons_x {s : St} {r : Sts} {w : Xc} (h : rn T s ρ = .exc w) : rns T (.cons s r) ρ = .exc w := bindX h
theorem rn_app {i : Nat} {ds : List D} (hs : slotE ρ i = some (.f (.ol ds))) (he : ev T e ρ = .ok x) (hu : unown ρ (roots e) = ρ) (hl : ds.length + 1 ≤ line) : rn T (.app i e) ρ = .ok (.nx (ρ.set i (some (.f (.ol (ds ++ [x])))))) := by
  have h1 : rn T (.app i e) ρ = (ev T e ρ).bind fun x => (appO (keepR ρ (roots e) x) i [x]).bind fun ρ => R.ok (Fl.nx ρ) := by
    show (match slotE ρ i with
      | some (.f (.ol _)) => (ev T e ρ).bind fun x => (appO (keepR ρ (roots e) x) i [x]).bind fun ρ => R.ok (Fl.nx ρ)
      | _ => .stk) = _
    rw [hs]
  rw [h1]
  refine bindO he ?_
  rw [keepR_id hu]
  refine bindO (x := ρ.set i (some (.f (.ol (ds ++ [x]))))) ?_ rfl
  unfold appO
  rw [hs]
  exact guardR_t (decide_eq_true hl)
/-- the table of the functions, k calls deep -/
abbrev tb (B : Nat → Option FnI) (fi : Nat → Str → Option Nat) (sub : Nat → Nat → Bool) (fuel k : Nat) : Tab := ⟨fi, fun f => (B f).bind FnI.cls, callF B fi sub fuel k, fuel, sub⟩
theorem cl {B : Nat → Option FnI} {fi : Nat → Str → Option Nat} {sub : Nat → Nat → Bool} {fuel k f : Nat} {es : Exs} {xs : List D} {r : R D} (h : evs (tb B fi sub fuel k) es ρ = .ok xs) (h2 : callF B fi sub fuel k f xs = r) : ev (tb B fi sub fuel k) (.call f es) ρ = r := ev_call h h2
theorem cm {B : Nat → Option FnI} {fi : Nat → Str → Option Nat} {sub : Nat → Nat → Bool} {fuel k f c : Nat} {es : Exs} {xs : List D} {r : R D} (h : evs (tb B fi sub fuel k) es ρ = .ok xs) (h2 : callF B fi sub fuel k f xs = r) : ev (tb B fi sub fuel k) (.mk c f es) ρ = r := ev_mk h h2
/-! loops -/
/-- the loop's own name: nothing at first, then the last number -/
def lv (o : Option OD) (lo : Int) : Nat → Option OD
  | 0 => o
  | i + 1 => sh (.int (lo + i))
theorem loopF_ints {f : D → Env → R Fl} : ∀ (n : Nat) (lo : Int) (P : Nat → Env), (∀ i, i < n → f (.int (lo + i)) (P i) = .ok (.nx (P (i + 1)))) → loopF f (intsD lo n) (P 0) = .ok (.nx (P n))
  | 0, lo, P, h => rfl
  | n + 1, lo, P, h => by
    refine bindO (x := .nx (P 1)) ?_ ?_
    · have := h 0 (Nat.succ_pos n)
      rw [Int.natCast_zero, Int.add_zero] at this
      exact this
    · refine loopF_ints n (lo + 1) (fun i => P (i + 1)) fun i hi => ?_
      have := h (i + 1) (Nat.succ_lt_succ hi)
      rw [show lo + ((i + 1 : Nat) : Int) = lo + 1 + (i : Int) by omega] at this
      exact this
theorem loopF_inv {f : D → Env → R Fl} : ∀ (n : Nat) (lo : Int) (I : Nat → Env → Prop) (ρ : Env), (∀ i ρ, i < n → I i ρ → ∃ ρ', f (.int (lo + i)) ρ = .ok (.nx ρ') ∧ I (i + 1) ρ') → I 0 ρ → ∃ ρ', loopF f (intsD lo n) ρ = .ok (.nx ρ') ∧ I n ρ'
  | 0, lo, I, ρ, h, h0 => ⟨ρ, rfl, h0⟩
  | n + 1, lo, I, ρ, h, h0 => by
    obtain ⟨ρ1, h1, h2⟩ := h 0 ρ (Nat.succ_pos n) h0
    rw [Int.natCast_zero, Int.add_zero] at h1
    obtain ⟨ρ2, h3, h4⟩ := loopF_inv n (lo + 1) (fun i => I (i + 1)) ρ1 (fun i ρ hi hI => by
      have := h (i + 1) ρ (Nat.succ_lt_succ hi) hI
      rw [show lo + ((i + 1 : Nat) : Int) = lo + 1 + (i : Int) by omega] at this
      exact this) h2
    exact ⟨ρ2, bindO h1 h3, h4⟩
/-- for .. in range(n) -/
theorem rn_for {g : Tg} {bd : Sts} {i : Int} {w : R Fl} (hb : ev T b ρ = .ok (.int i)) (hs : smallI i = true) (h : loopF (fun x ρ => (bindT g x ρ).bind fun ρ => rns T bd ρ) (intsD 0 i.toNat) ρ = w) : rn T (.fr g (.r1 b) bd) ρ = w := by
  refine bindO (x := intsD 0 i.toNat) ?_ h
  exact bindO hb (guardR_t hs)
/-- what Euclid's loop leaves -/
theorem loopW_gcd {cnd : Env → R Bool} {f : Env → R Fl} {P : Nat → Nat → Env} (hc : ∀ a b, cnd (P a b) = .ok (decide ((0 : Int) < (b : Int)))) (M : Nat) (hf : ∀ a b, a ≤ M → b ≤ M → 0 < b → f (P a b) = .ok (.nx (P b (a % b)))) : ∀ (n a b : Nat), b < n → a ≤ M → b ≤ M → ∃ z, loopW cnd f n (P a b) = .ok (.nx (P (Nat.gcd b a) z))
  | 0, a, b, h, _, _ => absurd h (Nat.not_lt_zero b)
  | n + 1, a, b, h, h1, h2 => by
    match b, h, h2 with
    | 0, h, h2 =>
      refine ⟨0, bindO (hc a 0) ?_⟩
      show R.ok (Fl.nx (P a 0)) = _
      rw [Nat.gcd_zero_left]
    | b + 1, h, h2 =>
      have hl : a % (b + 1) < b + 1 := Nat.mod_lt _ (Nat.succ_pos b)
      obtain ⟨z, hz⟩ := loopW_gcd hc M hf n (b + 1) (a % (b + 1)) (by omega) h2 (by omega)
      refine ⟨z, bindO (hc a (b + 1)) ?_⟩
      have hd : decide ((0 : Int) < ((b + 1 : Nat) : Int)) = true := decide_eq_true (by omega)
      rw [hd]
      refine bindO (hf a (b + 1) h1 h2 (Nat.succ_pos b)) ?_
      show loopW cnd f n (P (b + 1) (a % (b + 1))) = _
      rw [hz, Nat.gcd_rec (b + 1) a]
theorem pow_le2 {a b : Nat} (h : a ≤ b) : (2 : Int) ^ a ≤ 2 ^ b := by
  have := Nat.pow_le_pow_right (n := 2) (by decide) h
  have h2 : ((2 ^ a : Nat) : Int) ≤ ((2 ^ b : Nat) : Int) := Int.ofNat_le.mpr this
  rwa [Int.natCast_pow, Int.natCast_pow] at h2
/-- i * i * .. -/
def pw (b : Int) : Nat → Int
  | 0 => 1
  | n + 1 => pw b n * b
theorem pw_le {b : Int} {w : Nat} (h0 : 0 ≤ b) (h : b ≤ 2 ^ w) : ∀ n, 0 ≤ pw b n ∧ pw b n ≤ 2 ^ (w * n)
  | 0 => ⟨Int.zero_le_ofNat 1, by show (1 : Int) ≤ _; rw [Nat.mul_zero]; exact Int.le_refl 1⟩
  | n + 1 => by
    obtain ⟨h1, h2⟩ := pw_le h0 h n
    refine ⟨Int.mul_nonneg h1 h0, ?_⟩
    have h3 : pw b n * b ≤ 2 ^ (w * n) * 2 ^ w := Int.mul_le_mul h2 h h0 (Int.le_trans h1 h2)
    rw [Nat.mul_succ, Int.pow_add]
    exact h3
theorem pw_pos {b : Int} (h : 0 < b) : ∀ n, 0 < pw b n
  | 0 => Int.zero_lt_one
  | n + 1 => Int.mul_pos (pw_pos h n) h
/-- n over i -/
def chv (n : Int) : Nat → Int
  | 0 => 1
  | i + 1 => chv n i * (n - (0 + (i : Int))) / ((0 + (i : Int)) + 1)
theorem chv_le {n : Nat} (h : n ≤ 1000) : ∀ i, i ≤ n → 0 ≤ chv n i ∧ chv n i ≤ 2 ^ (10 * i)
  | 0, _ => ⟨Int.zero_le_ofNat 1, by show (1 : Int) ≤ _; rw [Nat.mul_zero]; exact Int.le_refl 1⟩
  | i + 1, hi => by
    obtain ⟨h1, h2⟩ := chv_le h i (by omega)
    have ha : (0 : Int) ≤ (n : Int) - (0 + (i : Int)) := by omega
    have hb : (n : Int) - (0 + (i : Int)) ≤ 2 ^ 10 := by
      have : (2 : Int) ^ 10 = 1024 := by decide
      rw [this]; omega
    have hc : 0 ≤ chv n i * ((n : Int) - (0 + (i : Int))) := Int.mul_nonneg h1 ha
    refine ⟨Int.ediv_nonneg hc (by omega), ?_⟩
    refine Int.le_trans (Int.ediv_le_self _ hc) ?_
    rw [Nat.mul_succ, Int.pow_add]
    exact Int.mul_le_mul h2 hb ha (Int.le_trans h1 h2)
end PD
end

section
set_option Elab.async false
set_option linter.all false
set_option maxRecDepth 100000
/-! PD, part 20: the functions that most laws share, under one number in every law. -/
namespace PD.Core
open PySem PD
-- _law_cell ['script', 'k']
def b0 : Sts := (.cons (.ife (.cmp .lt (.var 1) (.bi .len (.cons (.var 0) .nil))) (.cons (.ret (.idx (.var 0) (.var 1))) .nil) .nil) (.cons (.ret (.cI 0)) .nil))
def f0 : FnI := ⟨2, 2, none, b0, none⟩
-- _law_numbers ['script', 'at', 'many']
def b1 : Sts := (.cons (.asg (.n 3) (.bi .abs (.cons (.call 0 (.cons (.var 0) (.cons (.var 1) .nil))) .nil))) (.cons (.asg (.n 4) (.cmp .ge (.var 3) (.bin .pow (.cI 10) (.cI 18)))) (.cons (.asg (.n 5) (.lst .nil)) (.cons (.fr (.n 6) (.r1 (.var 2)) (.cons (.ife (.and (.var 4) (.cmp .eq (.var 3) (.cI 0))) (.cons (.asg (.n 4) (.cB false)) (.cons (.asg (.n 3) (.bin .add (.bi .abs (.cons (.call 0 (.cons (.var 0) (.cons (.bin .add (.var 1) (.cI 1)) .nil))) .nil)) (.var 6))) .nil)) .nil) (.cons (.ife (.var 4) (.cons (.app 5 (.bin .mod (.bi .intOf (.cons (.var 3) .nil)) (.cI 840))) (.cons (.asg (.n 3) (.bin .fdiv (.var 3) (.cI 840))) .nil)) (.cons (.asg (.n 3) (.bin .mod (.bi .intOf (.cons (.bin .add (.bin .add (.bin .mul (.var 3) (.cI 48271)) (.bin .mul (.cI 7) (.var 6))) (.cI 11)) .nil)) (.cI 2147483647))) (.cons (.app 5 (.bin .fdiv (.var 3) (.cI 13))) .nil))) .nil))) (.cons (.ret (.var 5)) .nil)))))
def f1 : FnI := ⟨3, 7, none, b1, none⟩
-- all_rows ['many', 'bound']
def b2 : Sts := (.cons (.asg (.n 2) (.lst (.cons (.tup .nil) .nil))) (.cons (.whl (.cmp .lt (.bi .len (.cons (.idx (.var 2) (.cI 0)) .nil)) (.var 0)) (.cons (.asg (.n 2) (.lc2 [3, 4] [4] (.n 3) (.e (.var 2)) .nil (.n 4) (.r1 (.var 1)) .nil (.bin .add (.var 3) (.tup (.cons (.var 4) .nil))))) .nil)) (.cons (.ret (.var 2)) .nil)))
def f2 : FnI := ⟨2, 5, none, b2, none⟩
-- is_whole ['thing']
def b3 : Sts := (.cons (.ret (.and (.isi (.var 0) .int) (.not (.isi (.var 0) .bool)))) .nil)
def f3 : FnI := ⟨1, 1, none, b3, none⟩
-- is_below ['thing', 'bound']
def b4 : Sts := (.cons (.ret (.and (.call 3 (.cons (.var 0) .nil)) (.cmp2 .le .lt (.cI 0) (.var 0) (.var 1)))) .nil)
def f4 : FnI := ⟨2, 2, none, b4, none⟩
-- is_back ['thing']
def b5 : Sts := (.cons (.ife (.or (.not (.isi (.var 0) .tuple)) (.not (.cmp2 .le .le (.cI 1) (.bi .len (.cons (.var 0) .nil)) (.gI "MOST_KINDS" 4)))) (.cons (.ret (.cB false)) .nil) .nil) (.cons (.ife (.not (.bi .all (.cons (.lc [1] (.n 1) (.e (.var 0)) .nil (.call 4 (.cons (.var 1) (.cons (.bi .len (.cons (.var 0) .nil)) .nil)))) .nil))) (.cons (.ret (.cB false)) .nil) .nil) (.cons (.ret (.bi .all (.cons (.lc [1] (.n 1) (.r1 (.bi .len (.cons (.var 0) .nil))) .nil (.cmp .eq (.idx (.var 0) (.idx (.var 0) (.var 1))) (.var 1))) .nil))) .nil)))
def f5 : FnI := ⟨1, 2, none, b5, none⟩
-- are_below ['thing', 'many', 'bound']
def b6 : Sts := (.cons (.ife (.or (.not (.isi (.var 0) .tuple)) (.cmp .ne (.bi .len (.cons (.var 0) .nil)) (.var 1))) (.cons (.ret (.cB false)) .nil) .nil) (.cons (.ret (.bi .all (.cons (.lc [3] (.n 3) (.e (.var 0)) .nil (.call 4 (.cons (.var 3) (.cons (.var 2) .nil)))) .nil))) .nil))
def f6 : FnI := ⟨3, 4, none, b6, none⟩
-- orders_of ['back', 'trio']
def b7 : Sts := (.cons (.asg (.t (.cons (.n 2) (.cons (.n 3) (.cons (.n 4) .nil)))) (.var 1)) (.cons (.ret (.lst (.cons (.tup (.cons (.var 2) (.cons (.var 3) (.cons (.var 4) .nil)))) (.cons (.tup (.cons (.idx (.var 0) (.var 2)) (.cons (.var 4) (.cons (.var 3) .nil)))) (.cons (.tup (.cons (.var 4) (.cons (.idx (.var 0) (.var 3)) (.cons (.var 2) .nil)))) (.cons (.tup (.cons (.idx (.var 0) (.var 3)) (.cons (.idx (.var 0) (.var 2)) (.cons (.idx (.var 0) (.var 4)) .nil)))) (.cons (.tup (.cons (.var 3) (.cons (.idx (.var 0) (.var 4)) (.cons (.idx (.var 0) (.var 2)) .nil)))) (.cons (.tup (.cons (.idx (.var 0) (.var 4)) (.cons (.var 2) (.cons (.idx (.var 0) (.var 3)) .nil)))) .nil)))))))) .nil))
def f7 : FnI := ⟨2, 5, none, b7, none⟩
-- are_barred ['back', 'thing']
def b8 : Sts := (.cons (.ife (.or (.not (.isi (.var 1) .tuple)) (.not (.bi .all (.cons (.lc [3] (.n 3) (.e (.var 1)) .nil (.call 6 (.cons (.var 3) (.cons (.cI 3) (.cons (.bi .len (.cons (.var 0) .nil)) .nil))))) .nil)))) (.cons (.ret (.cB false)) .nil) .nil) (.cons (.ife (.not (.bi .all (.cons (.lc [3] (.n 3) (.e (.var 1)) .nil (.cmp .eq (.var 3) (.bi .min1 (.cons (.call 7 (.cons (.var 0) (.cons (.var 3) .nil))) .nil)))) .nil))) (.cons (.ret (.cB false)) .nil) .nil) (.cons (.ret (.bi .all (.cons (.lc [2] (.n 2) (.r2 (.cI 1) (.bi .len (.cons (.var 1) .nil))) .nil (.cmp .lt (.idx (.var 1) (.bin .sub (.var 2) (.cI 1))) (.idx (.var 1) (.var 2)))) .nil))) .nil)))
def f8 : FnI := ⟨2, 4, none, b8, none⟩
-- Book.__init__ ['self', 'back', 'barred']
def b9 : Sts := (.cons (.ife (.not (.call 5 (.cons (.var 1) .nil))) (.cons .nev .nil) .nil) (.cons (.ife (.not (.call 8 (.cons (.var 1) (.cons (.var 2) .nil)))) (.cons .nev .nil) .nil) (.cons (.fset "back" (.var 1)) (.cons (.fset "barred" (.var 2)) (.cons (.fset "kinds" (.bi .len (.cons (.var 1) .nil))) (.cons (.fset "lets" (.newD true)) (.cons (.fset "known_knit" .cN) (.cons (.fr (.n 3) (.e (.call 2 (.cons (.cI 3) (.cons (.bi .len (.cons (.var 1) .nil)) .nil)))) (.cons (.ife (.cmp .notin (.bi .min1 (.cons (.call 7 (.cons (.var 1) (.cons (.var 3) .nil))) .nil)) (.var 2)) (.cons (.fsub "lets" (.var 3) (.cB true)) .nil) .nil) .nil)) .nil))))))))
def f9 : FnI := ⟨3, 4, some 0, b9, none⟩
-- _law_backs []
def b10 : Sts := (.cons (.asg (.n 0) (.lst (.cons (.tup (.cons (.cI 0) .nil)) (.cons (.tup (.cons (.cI 0) (.cons (.cI 1) .nil))) (.cons (.tup (.cons (.cI 1) (.cons (.cI 0) .nil))) (.cons (.tup (.cons (.cI 0) (.cons (.cI 1) (.cons (.cI 2) .nil)))) (.cons (.tup (.cons (.cI 1) (.cons (.cI 0) (.cons (.cI 2) .nil)))) (.cons (.tup (.cons (.cI 2) (.cons (.cI 1) (.cons (.cI 0) .nil)))) (.cons (.tup (.cons (.cI 0) (.cons (.cI 2) (.cons (.cI 1) .nil)))) (.cons (.tup (.cons (.cI 0) (.cons (.cI 1) (.cons (.cI 2) (.cons (.cI 3) .nil))))) (.cons (.tup (.cons (.cI 1) (.cons (.cI 0) (.cons (.cI 2) (.cons (.cI 3) .nil))))) .nil))))))))))) (.cons (.asg (.n 0) (.bin .add (.var 0) (.lst (.cons (.tup (.cons (.cI 2) (.cons (.cI 1) (.cons (.cI 0) (.cons (.cI 3) .nil))))) (.cons (.tup (.cons (.cI 3) (.cons (.cI 1) (.cons (.cI 2) (.cons (.cI 0) .nil))))) (.cons (.tup (.cons (.cI 0) (.cons (.cI 2) (.cons (.cI 1) (.cons (.cI 3) .nil))))) (.cons (.tup (.cons (.cI 0) (.cons (.cI 3) (.cons (.cI 2) (.cons (.cI 1) .nil))))) (.cons (.tup (.cons (.cI 0) (.cons (.cI 1) (.cons (.cI 3) (.cons (.cI 2) .nil))))) (.cons (.tup (.cons (.cI 1) (.cons (.cI 0) (.cons (.cI 3) (.cons (.cI 2) .nil))))) (.cons (.tup (.cons (.cI 2) (.cons (.cI 3) (.cons (.cI 0) (.cons (.cI 1) .nil))))) .nil)))))))))) (.cons (.ret (.bin .add (.var 0) (.lst (.cons (.tup (.cons (.cI 3) (.cons (.cI 2) (.cons (.cI 1) (.cons (.cI 0) .nil))))) .nil)))) .nil)))
def f10 : FnI := ⟨0, 1, none, b10, none⟩
-- _law_tellings ['back', 'p', 'q', 'r']
def b11 : Sts := (.cons (.asg (.n 4) (.lst (.cons (.tup (.cons (.var 1) (.cons (.var 2) (.cons (.var 3) .nil)))) (.cons (.tup (.cons (.idx (.var 0) (.var 1)) (.cons (.var 3) (.cons (.var 2) .nil)))) (.cons (.tup (.cons (.var 3) (.cons (.idx (.var 0) (.var 2)) (.cons (.var 1) .nil)))) (.cons (.tup (.cons (.idx (.var 0) (.var 2)) (.cons (.idx (.var 0) (.var 1)) (.cons (.idx (.var 0) (.var 3)) .nil)))) (.cons (.tup (.cons (.var 2) (.cons (.idx (.var 0) (.var 3)) (.cons (.idx (.var 0) (.var 1)) .nil)))) .nil))))))) (.cons (.ret (.bin .add (.var 4) (.lst (.cons (.tup (.cons (.idx (.var 0) (.var 3)) (.cons (.var 1) (.cons (.idx (.var 0) (.var 2)) .nil)))) .nil)))) .nil))
def f11 : FnI := ⟨4, 5, none, b11, none⟩
-- _law_form ['back', 'p', 'q', 'r']
def b12 : Sts := (.cons (.ret (.bi .min1 (.cons (.call 11 (.cons (.var 0) (.cons (.var 1) (.cons (.var 2) (.cons (.var 3) .nil))))) .nil))) .nil)
def f12 : FnI := ⟨4, 4, none, b12, none⟩
-- _law_forms ['back']
def b13 : Sts := (.cons (.asg (.n 1) (.lst .nil)) (.cons (.asg (.n 2) (.bi .len (.cons (.var 0) .nil))) (.cons (.fr (.n 3) (.r1 (.bin .mul (.bin .mul (.var 2) (.var 2)) (.var 2))) (.cons (.asg (.n 4) (.call 12 (.cons (.var 0) (.cons (.bin .fdiv (.var 3) (.bin .mul (.var 2) (.var 2))) (.cons (.bin .mod (.bin .fdiv (.var 3) (.var 2)) (.var 2)) (.cons (.bin .mod (.var 3) (.var 2)) .nil)))))) (.cons (.ife (.cmp .notin (.var 4) (.var 1)) (.cons (.app 1 (.var 4)) .nil) .nil) .nil))) (.cons (.ret (.bi .sorted (.cons (.var 1) .nil))) .nil))))
def f13 : FnI := ⟨1, 5, none, b13, none⟩
-- _law_any_book ['numbers']
def b14 : Sts := (.cons (.asg (.n 1) (.idx (.call 10 .nil) (.bin .mod (.idx (.var 0) (.cI 0)) (.cI 17)))) (.cons (.asg (.n 2) (.call 13 (.cons (.var 1) .nil))) (.cons (.asg (.n 3) (.lst .nil)) (.cons (.fr (.n 4) (.r1 (.bi .len (.cons (.var 2) .nil))) (.cons (.ife (.cmp .eq (.bin .mod (.bin .fdiv (.idx (.var 0) (.bin .add (.cI 1) (.bin .mod (.var 4) (.bin .sub (.bi .len (.cons (.var 0) .nil)) (.cI 1))))) (.bin .add (.cI 1) (.bin .fdiv (.var 4) (.cI 7)))) (.cI 3)) (.cI 1)) (.cons (.app 3 (.idx (.var 2) (.var 4))) .nil) .nil) .nil)) (.cons (.ret (.tup (.cons (.var 1) (.cons (.bi .tupleOf (.cons (.var 3) .nil)) .nil)))) .nil)))))
def f14 : FnI := ⟨1, 5, none, b14, none⟩
-- _law_is_number ['thing']
def b15 : Sts := (.cons (.ret (.and (.isi (.var 0) .int) (.not (.isi (.var 0) .bool)))) .nil)
def f15 : FnI := ⟨1, 1, none, b15, none⟩
-- _law_let ['back', 'barred', 'p', 'q', 'r']
def b16 : Sts := (.cons (.ret (.cmp .notin (.call 12 (.cons (.var 0) (.cons (.var 2) (.cons (.var 3) (.cons (.var 4) .nil))))) (.var 1))) .nil)
def f16 : FnI := ⟨5, 5, none, b16, none⟩
variable {B : Nat → Option FnI} {fi : Nat → Str → Option Nat} {sub : Nat → Nat → Bool} {fu : Nat}
/-! the script's numbers -/
theorem c0 (h0 : B 0 = some f0) {k : Nat} (ns : List Int) (i : Nat) : ∃ v : Int, callF B fi sub fu (k+1) 0 [.scr (ns.map .int), .int (i : Int)] = .ok (.int v) := by
  by_cases h : i < ns.length
  · refine ⟨ns[i], ?_⟩
    refine callF_run (f := f0) (ρ := [sh (.scr (ns.map .int)), sh (.int i)]) h0 rfl rfl ?_
    have g1 : ev (tb B fi sub fu k) (.cmp .lt (.var 1) (.bi .len (.cons (.var 0) .nil))) [sh (.scr (ns.map .int)), sh (.int i)] = .ok (.bl true) := (ev_cmp rfl rfl).trans ((lt_i _ _).trans (by rw [decide_eq_true (by rw [List.length_map]; omega)]))
    have g2 : ev (tb B fi sub fu k) (.idx (.var 0) (.var 1)) [sh (.scr (ns.map .int)), sh (.int i)] = .ok (.int ns[i]) := (ev_idx rfl rfl).trans (idx_s (by rw [List.getElem?_map, List.getElem?_eq_getElem h]; rfl))
    obtain ⟨ρ', h1⟩ := ret_l (T := tb B fi sub fu k) (s := .nil) g2
    exact bindO (bindO (rn_if_t g1 h1) rfl) rfl
  · refine ⟨0, ?_⟩
    refine callF_run (f := f0) (ρ := [sh (.scr (ns.map .int)), sh (.int i)]) h0 rfl rfl ?_
    have g1 : ev (tb B fi sub fu k) (.cmp .lt (.var 1) (.bi .len (.cons (.var 0) .nil))) [sh (.scr (ns.map .int)), sh (.int i)] = .ok (.bl false) := (ev_cmp rfl rfl).trans ((lt_i _ _).trans (by rw [decide_eq_false (by rw [List.length_map]; omega)]))
    refine stepB (rn_if_n g1) ?_
    exact ret_b rfl fun _ => rfl
theorem abs_nat (v : Int) : ∃ c : Nat, (if v < 0 then -v else v) = (c : Int) := ⟨v.natAbs, by split <;> omega⟩
abbrev nD (a : Nat) : D := .int (a : Int)
abbrev NV (ss : List D) (c : Nat) (g : Bool) (nm : List Nat) (o : Option OD) : PD.Env := [sh (.scr ss), sh (.int 0), sh (.int 30), sh (.int (c : Int)), sh (.bl g), some (.f (.ol (nm.map nD))), o]
theorem c1 (h0 : B 0 = some f0) (hB1 : B 1 = some f1) {k : Nat} (ns : List Int) : ∃ nm : List Nat, nm.length = 30 ∧ callF B fi sub fu (k+2) 1 [.scr (ns.map .int), .int 0, .int 30] = .ok (.lst (nm.map nD)) := by
  obtain ⟨v0, hv0⟩ := c0 (B := B) (fi := fi) (sub := sub) (fu := fu) h0 (k := k) ns 0
  obtain ⟨v1, hv1⟩ := c0 (B := B) (fi := fi) (sub := sub) (fu := fu) h0 (k := k) ns 1
  obtain ⟨z0, hz0⟩ := abs_nat v0
  obtain ⟨z1, hz1⟩ := abs_nat v1
  have w0 : biD .abs [.int v0] = .ok (.int (z0 : Int)) := by rw [← hz0]; rfl
  have w1 : biD .abs [.int v1] = .ok (.int (z1 : Int)) := by rw [← hz1]; rfl
  obtain ⟨ρ', h1, c, g, nm, hl, he⟩ := loopF_inv (f := fun x ρ => (bindT (.n 6) x ρ).bind fun ρ => rns (tb B fi sub fu (k+1)) (.cons (.ife (.and (.var 4) (.cmp .eq (.var 3) (.cI 0))) (.cons (.asg (.n 4) (.cB false)) (.cons (.asg (.n 3) (.bin .add (.bi .abs (.cons (.call 0 (.cons (.var 0) (.cons (.bin .add (.var 1) (.cI 1)) .nil))) .nil)) (.var 6))) .nil)) .nil) (.cons (.ife (.var 4) (.cons (.app 5 (.bin .mod (.bi .intOf (.cons (.var 3) .nil)) (.cI 840))) (.cons (.asg (.n 3) (.bin .fdiv (.var 3) (.cI 840))) .nil)) (.cons (.asg (.n 3) (.bin .mod (.bi .intOf (.cons (.bin .add (.bin .add (.bin .mul (.var 3) (.cI 48271)) (.bin .mul (.cI 7) (.var 6))) (.cI 11)) .nil)) (.cI 2147483647))) (.cons (.app 5 (.bin .fdiv (.var 3) (.cI 13))) .nil))) .nil)) ρ)
    30 0 (fun i ρ => ∃ (c : Nat) (g : Bool) (nm : List Nat), nm.length = i ∧ ρ = NV (ns.map .int) c g nm (lv none 0 i)) (NV (ns.map .int) z0 (!decide ((z0 : Int) < 1000000000000000000)) [] none) (fun i ρ hi hI => by
      obtain ⟨c, g, nm, hl, he⟩ := hI
      subst he
      have s1 : ∃ (c' : Nat) (g' : Bool), rn (tb B fi sub fu (k+1)) (.ife (.and (.var 4) (.cmp .eq (.var 3) (.cI 0))) (.cons (.asg (.n 4) (.cB false)) (.cons (.asg (.n 3) (.bin .add (.bi .abs (.cons (.call 0 (.cons (.var 0) (.cons (.bin .add (.var 1) (.cI 1)) .nil))) .nil)) (.var 6))) .nil)) .nil) (NV (ns.map .int) c g nm (sh (.int (0 + i)))) = .ok (.nx (NV (ns.map .int) c' g' nm (sh (.int (0 + i))))) := by
        cases g with
        | false => exact ⟨c, false, rn_if_n (ev_and_f rfl)⟩
        | true =>
          cases hc : decide ((c : Int) = 0) with
          | false => exact ⟨c, true, rn_if_n (ev_and_t rfl ((ev_cmp rfl rfl).trans ((eq_i _ _).trans (by rw [hc]))))⟩
          | true =>
            refine ⟨z1 + i, false, rn_if_t (ev_and_t rfl ((ev_cmp rfl rfl).trans ((eq_i _ _).trans (by rw [hc])))) (stp (ρ' := NV (ns.map .int) c false nm (sh (.int (0 + i)))) rfl (stp (ρ' := NV (ns.map .int) (z1 + i) false nm (sh (.int (0 + i)))) ?_ rfl))⟩
            rw [show NV (ns.map .int) (z1 + i) false nm (sh (.int (0 + i))) = (NV (ns.map .int) c false nm (sh (.int (0 + i)))).set 3 (sh (.int ((z1 : Int) + (0 + (i : Int))))) by
              show [_, _, _, sh (.int ((z1 + i : Nat) : Int)), _, _, _] = [_, _, _, sh (.int ((z1 : Int) + (0 + (i : Int)))), _, _, _]
              rw [show ((z1 + i : Nat) : Int) = (z1 : Int) + (0 + (i : Int)) by omega]]
            exact rn_asg (ev_add (ev_bi (evs1 (cl (xs := [.scr (ns.map .int), .int 1]) rfl hv1)) w1) rfl) rfl rfl rfl
      obtain ⟨c', g', s1⟩ := s1
      have hmap : ∀ v : Nat, (nm.map nD) ++ [D.int (v : Int)] = (nm ++ [v]).map nD := fun v => by rw [List.map_append]; rfl
      have hlen : (nm.map nD).length + 1 ≤ line := by
        rw [List.length_map, hl]
        exact Nat.le_trans (show i + 1 ≤ 30 by omega) (by decide)
      have s2 : ∃ (c'' v : Nat), rn (tb B fi sub fu (k+1)) (.ife (.var 4) (.cons (.app 5 (.bin .mod (.bi .intOf (.cons (.var 3) .nil)) (.cI 840))) (.cons (.asg (.n 3) (.bin .fdiv (.var 3) (.cI 840))) .nil)) (.cons (.asg (.n 3) (.bin .mod (.bi .intOf (.cons (.bin .add (.bin .add (.bin .mul (.var 3) (.cI 48271)) (.bin .mul (.cI 7) (.var 6))) (.cI 11)) .nil)) (.cI 2147483647))) (.cons (.app 5 (.bin .fdiv (.var 3) (.cI 13))) .nil))) (NV (ns.map .int) c' g' nm (sh (.int (0 + i)))) = .ok (.nx (NV (ns.map .int) c'' g' (nm ++ [v]) (sh (.int (0 + i))))) := by
        cases g' with
        | true =>
          refine ⟨c' / 840, c' % 840, rn_if_t rfl (stp (ρ' := NV (ns.map .int) c' true (nm ++ [c' % 840]) (sh (.int (0 + i)))) ?_ (stp (ρ' := NV (ns.map .int) (c' / 840) true (nm ++ [c' % 840]) (sh (.int (0 + i)))) ?_ rfl))⟩
          · unfold NV
            rw [← hmap]
            exact rn_app rfl ((ev_bin (ev_bi (evs1 rfl) rfl) rfl).trans (mod_i (by decide))) rfl hlen
          · exact rn_asg ((ev_bin rfl rfl).trans (fdiv_i (by decide) (by decide))) rfl rfl rfl
        | false =>
          let w : Nat := (c' * 48271 + 7 * i + 11) % 2147483647
          refine ⟨w, w / 13, rn_if_f rfl (stp (ρ' := NV (ns.map .int) w false nm (sh (.int (0 + i)))) ?_ (stp (ρ' := NV (ns.map .int) w false (nm ++ [w / 13]) (sh (.int (0 + i)))) ?_ rfl))⟩
          · have hw : ((c' : Int) * 48271 + 7 * (0 + (i : Int)) + 11) % 2147483647 = (w : Int) := by
              show _ = (((c' * 48271 + 7 * i + 11) % 2147483647 : Nat) : Int)
              omega
            rw [show NV (ns.map .int) w false nm (sh (.int (0 + i))) = (NV (ns.map .int) c' false nm (sh (.int (0 + i)))).set 3 (sh (.int (((c' : Int) * 48271 + 7 * (0 + (i : Int)) + 11) % 2147483647))) by
              rw [hw]; rfl]
            exact rn_asg (ev_mod (ev_bi (evs1 (ev_add (ev_add (ev_mul rfl rfl (mulOk_r (by decide))) (ev_mul rfl rfl (mulOk_l (by decide)))) rfl)) rfl) rfl (by decide)) rfl rfl rfl
          · unfold NV
            rw [← hmap]
            exact rn_app rfl ((ev_bin rfl rfl).trans (fdiv_i (by decide) (by decide))) rfl hlen
      obtain ⟨c'', v, s2⟩ := s2
      refine ⟨_, bindO (x := NV (ns.map .int) c g nm (sh (.int (0 + i)))) rfl (stp s1 (stp s2 rfl)), c'', g', nm ++ [v], by rw [List.length_append, hl]; rfl, rfl⟩) ⟨z0, _, [], rfl, rfl⟩
  subst he
  refine ⟨nm, hl, ?_⟩
  refine callF_run (f := f1) (ρ := [sh (.scr (ns.map .int)), sh (.int 0), sh (.int 30), none, none, none, none]) hB1 rfl rfl ?_
  refine stepB (ρ' := [sh (.scr (ns.map .int)), sh (.int 0), sh (.int 30), sh (.int z0), none, none, none]) (rn_asg (ev_bi (evs1 (cl (xs := [.scr (ns.map .int), .int 0]) rfl hv0)) w0) rfl rfl rfl) ?_
  refine stepB (ρ' := [sh (.scr (ns.map .int)), sh (.int 0), sh (.int 30), sh (.int z0), sh (.bl (!decide ((z0 : Int) < 1000000000000000000))), none, none]) (rn_asg ((ev_cmp (y := .int 1000000000000000000) rfl rfl).trans (ge_i _ _)) rfl rfl rfl) ?_
  refine stepB (ρ' := NV (ns.map .int) z0 (!decide ((z0 : Int) < 1000000000000000000)) [] none) rfl ?_
  refine stepB (rn_for (i := 30) rfl rfl h1) ?_
  exact ret_b rfl fun _ => rfl
end PD.Core
end

section
set_option Elab.async false
set_option linter.all false
set_option maxRecDepth 100000
/-! PD, part 21: comprehensions, loops over any list. -/
namespace PD
open PySem
variable {T : Tab} {ρ ρ' : Env} {a b c e : Ex} {x y z : D}
theorem collect_map {f : D → R (List D)} {F : D → D} : ∀ {xs : List D}, (∀ x ∈ xs, f x = .ok [F x]) → collect f xs = .ok (xs.map F)
  | [], _ => rfl
  | x :: xs, h => by
    refine bindO (h x List.mem_cons_self) ?_
    exact bindO (collect_map fun y hy => h y (List.mem_cons_of_mem _ hy)) rfl
theorem collect_filter {f : D → R (List D)} {F : D → D} {p : D → Bool} : ∀ {xs : List D}, (∀ x ∈ xs, f x = .ok (match p x with
    | true => [F x]
    | false => [])) → collect f xs = .ok ((xs.filter p).map F)
  | [], _ => rfl
  | x :: xs, h => by
    refine bindO (h x List.mem_cons_self) ?_
    refine bindO (collect_filter fun y hy => h y (List.mem_cons_of_mem _ hy)) ?_
    rw [List.filter_cons]
    cases p x <;> rfl
theorem evIt_r1 {j : Int} (ha : ev T a ρ = .ok (.int j)) (h : smallI j = true) : evIt T (.r1 a) ρ = .ok (intsD 0 j.toNat) := bindO ha (guardR_t h)
theorem evIt_r2 {i j : Int} (ha : ev T a ρ = .ok (.int i)) (hb : ev T b ρ = .ok (.int j)) (h : (smallI i && smallI j) = true) : evIt T (.r2 a b) ρ = .ok (intsD i (j - i).toNat) := bindO ha (bindO hb (guardR_t h))
theorem evIt_e {xs : List D} (ha : ev T a ρ = .ok x) (h : itemsD x = .ok xs) : evIt T (.e a) ρ = .ok xs := bindO ha h
/-- [e for g in it] -/
theorem ev_lc {own : List Nat} {g : Tg} {it : It} {xs : List D} {F : D → D} (hi : evIt T it ρ = .ok xs) (hl : xs.length ≤ line)
    (h : ∀ x ∈ xs, ∃ ρx, bindT g x (wipeE (unown ρ (rootsI it)) own) = .ok ρx ∧ ev T e ρx = .ok (F x)) : ev T (.lc own g it .nil e) ρ = .ok (.lst (xs.map F)) := by
  refine bindO hi ?_
  refine bindO (x := xs.map F) ?_ ?_
  · refine Eq.trans (congrArg noExc (collect_map (F := F) fun x hx => ?_)) rfl
    obtain ⟨ρx, h1, h2⟩ := h x hx
    exact bindO h1 (bindO (x := true) rfl (bindO h2 rfl))
  · exact guardR_t (decide_eq_true (by rw [List.length_map]; exact hl))
/-- [e for g in it if c] -/
theorem ev_lcf {own : List Nat} {g : Tg} {it : It} {xs : List D} {F : D → D} {p : D → Bool} (hi : evIt T it ρ = .ok xs) (hl : xs.length ≤ line)
    (h : ∀ x ∈ xs, ∃ ρx, bindT g x (wipeE (unown ρ (rootsI it)) own) = .ok ρx ∧ ev T c ρx = .ok (.bl (p x)) ∧ (p x = true → ev T e ρx = .ok (F x))) : ev T (.lc own g it (.cons c .nil) e) ρ = .ok (.lst ((xs.filter p).map F)) := by
  refine bindO hi ?_
  refine bindO (x := (xs.filter p).map F) ?_ ?_
  · refine Eq.trans (congrArg noExc (collect_filter (F := F) (p := p) fun x hx => ?_)) rfl
    obtain ⟨ρx, h1, h2, h3⟩ := h x hx
    refine bindO h1 ?_
    cases hp : p x with
    | true => exact bindO (x := true) (bindO h2 (by rw [hp]; rfl)) (bindO (h3 hp) rfl)
    | false => exact bindO (x := false) (bindO h2 (by rw [hp]; rfl)) rfl
  · exact guardR_t (decide_eq_true (Nat.le_trans (by rw [List.length_map]; exact List.length_filter_le _ _) hl))
/-- all([..]) of truths -/
theorem isBls_map {α : Type} {p : α → Bool} : ∀ {xs : List α}, isBls (xs.map fun x => D.bl (p x)) = some (xs.map p)
  | [] => rfl
  | x :: xs => by
    show (isBls (xs.map fun x => D.bl (p x))).map (p x :: ·) = _
    rw [isBls_map]; rfl
theorem all_bls {α : Type} {p : α → Bool} {xs : List α} : biD .all [.lst (xs.map fun x => D.bl (p x))] = .ok (.bl (xs.all p)) := by
  show (R.ofO (isBls (xs.map fun x => D.bl (p x)))).bind _ = _
  rw [isBls_map]
  show R.ok (D.bl ((xs.map p).all id)) = _
  rw [List.all_map]; rfl
/-- a loop over any list, by what is there behind each part of it -/
theorem loopF_pre {f : D → Env → R Fl} : ∀ (xs pre : List D) (P : List D → Env), (∀ x l, x ∈ xs → f x (P l) = .ok (.nx (P (l ++ [x])))) → loopF f xs (P pre) = .ok (.nx (P (pre ++ xs)))
  | [], pre, P, _ => by rw [List.append_nil]; rfl
  | x :: xs, pre, P, h => by
    refine bindO (h x pre List.mem_cons_self) ?_
    have := loopF_pre xs (pre ++ [x]) P fun y l hy => h y l (List.mem_cons_of_mem _ hy)
    rw [List.append_assoc] at this
    exact this
/-- .. where the part is what stands ahead -/
theorem loopF_at {f : D → Env → R Fl} {whole : List D} (P : List D → Env) (h : ∀ l x r, whole = l ++ x :: r → f x (P l) = .ok (.nx (P (l ++ [x])))) : ∀ (xs pre : List D), whole = pre ++ xs → loopF f xs (P pre) = .ok (.nx (P whole))
  | [], pre, e => by rw [List.append_nil] at e; subst e; rfl
  | x :: xs, pre, e => by
    refine bindO (h pre x xs e) ?_
    exact loopF_at P h xs (pre ++ [x]) (by rw [List.append_assoc]; exact e)
theorem rn_fset {y : Str} {cc j : Nat} {fs : List OF} (he : ev T e ρ = .ok x) (hu : unown ρ (roots e) = ρ) (hs : slotE ρ 0 = some (.oo cc fs)) (hf : T.fi cc y = some j) (hj : (decide (j ≤ fs.length) && decide (fs.length < 100)) = true) :
    rn T (.fset y e) ρ = .ok (.nx (ρ.set 0 (some (.oo cc (setF fs j (ownO (frs e) x)))))) := by
  rw [rn]
  refine bindO he ?_
  rw [keepR_id hu, hs]
  refine bindO (x := j) (by rw [hf]; rfl) ?_
  exact guardR_t hj
theorem rn_fsub {w : Str} {cc j : Nat} {fs : List OF} {t : Bool} {kvs : List (D × D)} (he : ev T e ρ = .ok x) (hu : unown ρ (roots e) = ρ) (hs : slotE ρ 0 = some (.oo cc fs)) (hf : T.fi cc w = some j) (hj : fs[j]? = some (.od t kvs)) (hk : ev T a ρ = .ok y) (hz : froz y = true)
    (ho : (keyOk t y && decide (kvs.length < line)) = true) : rn T (.fsub w a e) ρ = .ok (.nx (ρ.set 0 (some (.oo cc (fs.set j (.od t (putK kvs y x))))))) := by
  rw [rn]
  refine bindO he ?_
  rw [keepR_id hu, hs]
  refine bindO (x := j) (by rw [hf]; rfl) ?_
  rw [hj]
  refine bindO hk ?_
  rw [hz]
  have h1 : subO (.od t kvs) y x = .ok (.od t (putK kvs y x)) := by
    rw [subO]
    exact guardR_t ho
  exact bindO h1 rfl
theorem putK_new {kvs : List (D × D)} {k v : D} (h : (kvs.any fun p => eqD p.1 k) = false) : putK kvs k v = kvs ++ [(k, v)] := by
  unfold putK
  rw [h]; rfl
/-! the same datum, sign by sign -/
mutual
def beqD : D → D → Bool
  | .non, .non => true
  | .bl a, .bl b => decide (a = b)
  | .int a, .int b => decide (a = b)
  | .str a, .str b => decide (a = b)
  | .tup a, .tup b => beqDs a b
  | .lst a, .lst b => beqDs a b
  | _, _ => false
def beqDs : List D → List D → Bool
  | [], [] => true
  | a :: r, b :: s => beqD a b && beqDs r s
  | _, _ => false
end
mutual
theorem beqD_ok : ∀ {a b : D}, beqD a b = true → a = b
  | .non, b, h => by cases b <;> first | rfl | exact absurd h Bool.false_ne_true
  | .bl a, b, h => by
    cases b <;> first
      | (rw [beqD] at h; rw [of_decide_eq_true h])
      | exact absurd h Bool.false_ne_true
  | .int a, b, h => by
    cases b <;> first
      | (rw [beqD] at h; rw [of_decide_eq_true h])
      | exact absurd h Bool.false_ne_true
  | .str a, b, h => by
    cases b <;> first
      | (rw [beqD] at h; rw [of_decide_eq_true h])
      | exact absurd h Bool.false_ne_true
  | .tup a, b, h => by
    cases b <;> first
      | (rw [beqD] at h; rw [beqDs_ok h])
      | exact absurd h Bool.false_ne_true
  | .lst a, b, h => by
    cases b <;> first
      | (rw [beqD] at h; rw [beqDs_ok h])
      | exact absurd h Bool.false_ne_true
  | .scr a, b, h => by cases b <;> exact absurd h Bool.false_ne_true
  | .dct t a, b, h => by cases b <;> exact absurd h Bool.false_ne_true
  | .obj c a, b, h => by cases b <;> exact absurd h Bool.false_ne_true
theorem beqDs_ok : ∀ {a b : List D}, beqDs a b = true → a = b
  | [], b, h => by cases b <;> first | rfl | exact absurd h Bool.false_ne_true
  | x :: r, b, h => by
    cases b with
    | nil => exact absurd h Bool.false_ne_true
    | cons y s =>
      rw [beqDs, Bool.and_eq_true] at h
      rw [beqD_ok h.1, beqDs_ok h.2]
end
end PD
end

section
set_option Elab.async false
set_option linter.all false
set_option maxRecDepth 100000
/-! PD, part 22: a book, whatever it bars. -/
namespace PD.Core
open PySem PD
variable {B : Nat → Option FnI} {fi : Nat → Str → Option Nat} {sub : Nat → Nat → Bool} {fu : Nat}
theorem smallI_nat {m : Nat} (h : m ≤ 100000) : smallI (m : Int) = true := by
  show (decide _ && decide _) = true
  rw [decide_eq_true (by omega), decide_eq_true (by omega)]; rfl
theorem map_true (xs : List D) : (xs.map fun _ => D.bl true) = xs.map fun x => D.bl ((fun _ => true) x) := rfl
theorem all_true (xs : List D) : biD .all [.lst (xs.map fun _ => D.bl true)] = .ok (.bl true) := by
  rw [map_true, all_bls]
  show R.ok (D.bl (xs.all fun _ => true)) = _
  rw [show (xs.all fun _ => true) = true from List.all_eq_true.mpr fun _ _ => rfl]
theorem c8 (h8 : B 8 = some f8) {k : Nat} {bb bs : List D} (hl : bs.length ≤ 1000)
    (hbel : ∀ t ∈ bs, callF B fi sub fu k 6 [t, .int 3, .int bb.length] = .ok (.bl true))
    (hfm : ∀ t ∈ bs, ∃ os, callF B fi sub fu k 7 [.tup bb, t] = .ok (.lst os) ∧ biD .min1 [.lst os] = .ok t)
    (heq : ∀ t ∈ bs, cmpD .eq t t = .ok (.bl true))
    (hord : ∀ i, i + 1 < bs.length → ∃ x y, bs[i]? = some x ∧ bs[i + 1]? = some y ∧ cmpD .lt x y = .ok (.bl true)) :
    callF B fi sub fu (k+1) 8 [.tup bb, .tup bs] = .ok (.bl true) := by
  have hl2 : bs.length ≤ line := Nat.le_trans hl (by decide)
  refine callF_run (f := f8) (ρ := [sh (.tup bb), sh (.tup bs), none, none]) h8 rfl rfl ?_
  have g1 : ev (tb B fi sub fu k) (.not (.bi .all (.cons (.lc [3] (.n 3) (.e (.var 1)) .nil (.call 6 (.cons (.var 3) (.cons (.cI 3) (.cons (.bi .len (.cons (.var 0) .nil)) .nil))))) .nil))) [sh (.tup bb), sh (.tup bs), none, none] = .ok (.bl false) := by
    refine evNot (k := true) (ev_bi (evs1 (ev_lc (xs := bs) (F := fun _ => .bl true) rfl hl2 fun x hx => ⟨[sh (.tup bb), sh (.tup bs), none, sh x], rfl, ?_⟩)) (all_true bs))
    exact cl (xs := [x, .int 3, .int bb.length]) rfl (hbel x hx)
  refine stepB (rn_if_n (ev_or_f (evNot (k := true) rfl) g1)) ?_
  have g2 : ev (tb B fi sub fu k) (.not (.bi .all (.cons (.lc [3] (.n 3) (.e (.var 1)) .nil (.cmp .eq (.var 3) (.bi .min1 (.cons (.call 7 (.cons (.var 0) (.cons (.var 3) .nil))) .nil)))) .nil))) [sh (.tup bb), sh (.tup bs), none, none] = .ok (.bl false) := by
    refine evNot (k := true) (ev_bi (evs1 (ev_lc (xs := bs) (F := fun _ => .bl true) rfl hl2 fun x hx => ⟨[sh (.tup bb), sh (.tup bs), none, sh x], rfl, ?_⟩)) (all_true bs))
    obtain ⟨os, h1, h2⟩ := hfm x hx
    exact (ev_cmp rfl (ev_bi (evs1 (cl (xs := [.tup bb, x]) rfl h1)) h2)).trans (heq x hx)
  refine stepB (rn_if_n g2) ?_
  refine ret_b (d := .bl true) ?_ fun _ => rfl
  have hz : intsD 1 ((bs.length : Int) - 1).toNat = intsD 1 (bs.length - 1) := by
    rw [show ((bs.length : Int) - 1).toNat = bs.length - 1 by omega]
  refine ev_bi (evs1 (ev_lc (xs := intsD 1 (bs.length - 1)) (F := fun _ => .bl true) ?_ ?_ fun x hx => ?_)) (all_true _)
  · rw [← hz]
    refine evIt_r2 rfl rfl ?_
    rw [smallI_nat (m := bs.length) (by omega)]; rfl
  · have : ∀ (n : Nat) (lo : Int), (intsD lo n).length = n := fun n => by
      induction n with
      | zero => intro lo; rfl
      | succ n ih => intro lo; rw [intsD, List.length_cons, ih]
    rw [this]
    exact Nat.le_trans (Nat.sub_le _ _) hl2
  · have : ∀ (n : Nat) (lo : Nat), x ∈ intsD lo n → ∃ i : Nat, x = .int (i : Int) ∧ lo ≤ i ∧ i < lo + n := fun n => by
      induction n with
      | zero => intro lo h; exact absurd h (by simp [intsD])
      | succ n ih =>
        intro lo h
        rw [intsD, List.mem_cons] at h
        rcases h with h | h
        · exact ⟨lo, h, Nat.le_refl _, by omega⟩
        · obtain ⟨i, h1, h2, h3⟩ := ih (lo + 1) h
          exact ⟨i, h1, by omega, by omega⟩
    obtain ⟨i, rfl, h1, h2⟩ := this _ 1 hx
    obtain ⟨x, y, hx1, hy1, h3⟩ := hord (i - 1) (by omega)
    refine ⟨[sh (.tup bb), sh (.tup bs), sh (.int (i : Int)), none], rfl, ?_⟩
    have e1 : (i : Int) - 1 = ((i - 1 : Nat) : Int) := by omega
    have e2 : i - 1 + 1 = i := by omega
    rw [e2] at hy1
    have q1 : idxD (.tup bs) (.int ((i : Int) - 1)) = .ok x := by
      rw [e1]
      show R.ofO (L2.atI bs ((i - 1 : Nat) : Int)) = _
      rw [at_ok hx1]; rfl
    have q2 : idxD (.tup bs) (.int (i : Int)) = .ok y := by
      show R.ofO (L2.atI bs (i : Int)) = _
      rw [at_ok hy1]; rfl
    exact (ev_cmp ((ev_idx rfl (ev_sub rfl rfl)).trans q1) ((ev_idx rfl rfl).trans q2)).trans h3
/-- the rows that a book lets -/
def letK (form : D → D) (bs : List D) (t : D) : Bool := !(bs.any fun y => eqD y (form t))
def lets (form : D → D) (bs l : List D) : List (D × D) := (l.filter (letK form bs)).map fun t => (t, D.bl true)
def lastO (l : List D) : Option OD := match l.getLast? with
  | none => none
  | some x => sh x
theorem lastO_app (l : List D) (x : D) : lastO (l ++ [x]) = sh x := by
  unfold lastO
  rw [List.getLast?_append]
  rfl
abbrev bkE (form : D → D) (bb bs : List D) (n : Int) (l : List D) : PD.Env := [some (.oo 0 [.sh (.tup bb), .sh (.tup bs), .sh (.int n), .od true (lets form bs l), .sh .non]), sh (.tup bb), sh (.tup bs), lastO l]
theorem c9 (h9 : B 9 = some f9) (hfi : ∀ x, fi 0 x = idxS ["back", "barred", "kinds", "lets", "known_knit"] x) {k : Nat} {bb bs rows : List D} {form : D → D} (hl : rows.length ≤ 1000)
    (h5 : callF B fi sub fu k 5 [.tup bb] = .ok (.bl true)) (h8 : callF B fi sub fu k 8 [.tup bb, .tup bs] = .ok (.bl true))
    (h2 : callF B fi sub fu k 2 [.int 3, .int bb.length] = .ok (.lst rows))
    (hfm : ∀ t ∈ rows, ∃ os, callF B fi sub fu k 7 [.tup bb, t] = .ok (.lst os) ∧ biD .min1 [.lst os] = .ok (form t))
    (hni : ∀ t ∈ rows, cmpD .notin (form t) (.tup bs) = .ok (.bl (letK form bs t)))
    (hkey : ∀ t ∈ rows, keyOk true t = true ∧ froz t = true)
    (hdis : ∀ l x r, rows = l ++ x :: r → ∀ t ∈ l, eqD t x = false) :
    callF B fi sub fu (k+1) 9 [.tup bb, .tup bs] = .ok (.obj 0 [.tup bb, .tup bs, .int bb.length, .dct true (lets form bs rows), .non]) := by
  refine callF_run (f := f9) (ρ := [some (.oo 0 []), sh (.tup bb), sh (.tup bs), none]) h9 rfl rfl ?_
  refine stepB (rn_if_n (evNot (k := true) (cl (xs := [.tup bb]) rfl h5))) ?_
  refine stepB (rn_if_n (evNot (k := true) (cl (xs := [.tup bb, .tup bs]) rfl h8))) ?_
  refine stepB (ρ' := [some (.oo 0 [.sh (.tup bb)]), sh (.tup bb), sh (.tup bs), none]) (rn_fset (T := tb B fi sub fu k) (ρ := [some (.oo 0 []), sh (.tup bb), sh (.tup bs), none]) (y := "back") (e := .var 1) (j := 0) (cc := 0) (fs := []) (x := .tup bb) rfl rfl rfl ((hfi "back").trans rfl) rfl) ?_
  refine stepB (ρ' := [some (.oo 0 [.sh (.tup bb), .sh (.tup bs)]), sh (.tup bb), sh (.tup bs), none]) (rn_fset (T := tb B fi sub fu k) (ρ := [some (.oo 0 [.sh (.tup bb)]), sh (.tup bb), sh (.tup bs), none]) (y := "barred") (e := .var 2) (j := 1) (cc := 0) (fs := [.sh (.tup bb)]) (x := .tup bs) rfl rfl rfl ((hfi "barred").trans rfl) rfl) ?_
  refine stepB (ρ' := [some (.oo 0 [.sh (.tup bb), .sh (.tup bs), .sh (.int bb.length)]), sh (.tup bb), sh (.tup bs), none]) (rn_fset (T := tb B fi sub fu k) (ρ := [some (.oo 0 [.sh (.tup bb), .sh (.tup bs)]), sh (.tup bb), sh (.tup bs), none]) (y := "kinds") (e := .bi .len (.cons (.var 1) .nil)) (j := 2) (cc := 0) (fs := [.sh (.tup bb), .sh (.tup bs)]) (x := .int bb.length) rfl rfl rfl ((hfi "kinds").trans rfl) rfl) ?_
  refine stepB (ρ' := [some (.oo 0 [.sh (.tup bb), .sh (.tup bs), .sh (.int bb.length), .od true []]), sh (.tup bb), sh (.tup bs), none]) (rn_fset (T := tb B fi sub fu k) (ρ := [some (.oo 0 [.sh (.tup bb), .sh (.tup bs), .sh (.int bb.length)]), sh (.tup bb), sh (.tup bs), none]) (y := "lets") (e := .newD true) (j := 3) (cc := 0) (fs := [.sh (.tup bb), .sh (.tup bs), .sh (.int bb.length)]) (x := .dct true []) rfl rfl rfl ((hfi "lets").trans rfl) rfl) ?_
  refine stepB (ρ' := bkE form bb bs bb.length []) (rn_fset (T := tb B fi sub fu k) (ρ := [some (.oo 0 [.sh (.tup bb), .sh (.tup bs), .sh (.int bb.length), .od true []]), sh (.tup bb), sh (.tup bs), none]) (y := "known_knit") (e := .cN) (j := 4) (cc := 0) (fs := [.sh (.tup bb), .sh (.tup bs), .sh (.int bb.length), .od true []]) (x := .non) rfl rfl rfl ((hfi "known_knit").trans rfl) rfl) ?_
  refine stepB (ρ' := bkE form bb bs bb.length rows) (bindO (evIt_e (x := .lst rows) (cl (xs := [.int 3, .int bb.length]) rfl h2) rfl) ?_) rfl
  refine loopF_at (whole := rows) (fun l => bkE form bb bs bb.length l) (fun l x r e => ?_) rows [] rfl
  have hx : x ∈ rows := by rw [e]; exact List.mem_append_right _ List.mem_cons_self
  obtain ⟨os, h7, hm⟩ := hfm x hx
  obtain ⟨hk1, hk2⟩ := hkey x hx
  refine bindO (x := [some (.oo 0 [.sh (.tup bb), .sh (.tup bs), .sh (.int bb.length), .od true (lets form bs l), .sh .non]), sh (.tup bb), sh (.tup bs), sh x]) rfl ?_
  have g : ev (tb B fi sub fu k) (.cmp .notin (.bi .min1 (.cons (.call 7 (.cons (.var 1) (.cons (.var 3) .nil))) .nil)) (.var 2)) [some (.oo 0 [.sh (.tup bb), .sh (.tup bs), .sh (.int bb.length), .od true (lets form bs l), .sh .non]), sh (.tup bb), sh (.tup bs), sh x] = .ok (.bl (letK form bs x)) :=
    (ev_cmp (ev_bi (evs1 (cl (xs := [.tup bb, x]) rfl h7)) hm) rfl).trans (hni x hx)
  show rns (tb B fi sub fu k) _ _ = .ok (.nx [some (.oo 0 [.sh (.tup bb), .sh (.tup bs), .sh (.int bb.length), .od true (lets form bs (l ++ [x])), .sh .non]), sh (.tup bb), sh (.tup bs), lastO (l ++ [x])])
  rw [lastO_app]
  cases c : letK form bs x with
  | false =>
    rw [c] at g
    have e2 : lets form bs (l ++ [x]) = lets form bs l := by
      unfold lets
      rw [List.filter_append, List.filter_cons, c]
      simp
    rw [e2]
    exact stp (rn_if_n g) rfl
  | true =>
    rw [c] at g
    have e2 : lets form bs (l ++ [x]) = putK (lets form bs l) x (.bl true) := by
      rw [putK_new]
      · unfold lets
        rw [List.filter_append, List.filter_cons, c]
        simp
      · rw [Bool.eq_false_iff]
        intro z
        obtain ⟨p, hp, hq⟩ := List.any_eq_true.mp z
        obtain ⟨t, ht, rfl⟩ := List.mem_map.mp hp
        have := hdis l x r e t (List.mem_filter.mp ht).1
        rw [this] at hq
        cases hq
    have hlen : (lets form bs l).length < line := by
      unfold lets
      rw [List.length_map]
      have h1 : (l.filter (letK form bs)).length ≤ l.length := List.length_filter_le _ _
      have h2 : l.length ≤ rows.length := by rw [e, List.length_append]; omega
      have h3 : 1000 < line := by decide
      omega
    rw [e2]
    refine stp (rn_if_t g (stp (rn_fsub (j := 3) (y := x) (x := .bl true) rfl rfl rfl ((hfi "lets").trans rfl) rfl rfl hk2 ?_) rfl)) rfl
    rw [hk1, decide_eq_true hlen]; rfl
end PD.Core
end

section
set_option Elab.async false
set_option linter.all false
set_option maxRecDepth 100000
/-! PD, part 23: rows of whole numbers, as plain lists. -/
namespace PD.Core
open PySem PD PySem.W
/-- a row -/
abbrev rD (a : List Nat) : D := .tup (a.map nD)
abbrev lD (a : List Nat) : D := .lst (a.map nD)
def ltR : List Nat → List Nat → Bool
  | [], [] => false
  | [], _ :: _ => true
  | _ :: _, [] => false
  | x :: xs, y :: ys => if x = y then ltR xs ys else decide (x < y)
theorem toPs_n : ∀ a : List Nat, toPs (a.map nD) = (a.map fun (x : Nat) => (x : Int)).map PyData.int
  | [] => rfl
  | x :: a => by
    show PyData.int x :: toPs (a.map nD) = _
    rw [toPs_n a]; rfl
theorem toP_r (a : List Nat) : toP (rD a) = .tuple ((a.map fun (x : Nat) => (x : Int)).map PyData.int) := by
  show PyData.tuple (toPs (a.map nD)) = _
  rw [toPs_n]
theorem eqv_ints : ∀ a b : List Nat, PyData.eqvAll ((a.map fun (x : Nat) => (x : Int)).map PyData.int) ((b.map fun (x : Nat) => (x : Int)).map PyData.int) = decide (a = b)
  | [], [] => by rw [List.map_nil, List.map_nil, PyData.eqvAll]; rfl
  | [], y :: ys => by
    rw [List.map_cons, List.map_cons, List.map_nil, List.map_nil, PyData.eqvAll]
    · rw [decide_eq_false (by intro h; cases h)]
    all_goals simp
  | x :: xs, [] => by
    rw [List.map_cons, List.map_cons, List.map_nil, List.map_nil, PyData.eqvAll]
    · rw [decide_eq_false (by intro h; cases h)]
    all_goals simp
  | x :: xs, y :: ys => by
    rw [List.map_cons, List.map_cons, List.map_cons, List.map_cons, eqv_all_cons, eqv_ints xs ys]
    have h : PyData.eqv (.int (x : Int)) (.int (y : Int)) = decide (x = y) := by
      have := eqD_i (x : Int) (y : Int)
      rw [show eqD (.int (x : Int)) (.int (y : Int)) = PyData.eqv (.int (x : Int)) (.int (y : Int)) from rfl] at this
      rw [this]
      exact decide_eq_decide.mpr Int.ofNat_inj
    rw [h, ← Bool.decide_and]
    exact decide_eq_decide.mpr ⟨fun ⟨h1, h2⟩ => by rw [h1, h2], fun h => by injection h with h1 h2; exact ⟨h1, h2⟩⟩
theorem eqD_r (a b : List Nat) : eqD (rD a) (rD b) = decide (a = b) := by
  show PyData.eqv (toP (rD a)) (toP (rD b)) = _
  rw [toP_r, toP_r, PyData.eqv, eqv_ints]
theorem eqD_n (a b : Nat) : eqD (nD a) (nD b) = decide (a = b) := by
  rw [eqD_i]
  exact decide_eq_decide.mpr Int.ofNat_inj
theorem ltR_of : ∀ a b : List Nat, decide ((a.map fun (x : Nat) => (x : Int)) < (b.map fun (x : Nat) => (x : Int))) = ltR a b
  | [], [] => by simp [ltR]
  | [], y :: ys => by simp [ltR]
  | x :: xs, [] => by simp [ltR]
  | x :: xs, y :: ys => by
    rw [ltR, ← ltR_of xs ys]
    by_cases h : x = y
    · subst h
      simp [List.cons_lt_cons_iff]
    · have h' : ¬ (x : Int) = (y : Int) := by omega
      simp [List.cons_lt_cons_iff, h, h']
theorem ltD_r (a b : List Nat) : ltD (rD a) (rD b) = ltR a b := by
  show dataLt (toP (rD a)) (toP (rD b)) = _
  rw [toP_r, toP_r, dataLt_tuple]
  exact (dataLt_ints _ _).trans (ltR_of a b)
theorem plains_n : ∀ a : List Nat, plains (a.map nD) = true
  | [] => rfl
  | x :: a => by
    show (true && plains (a.map nD)) = true
    rw [plains_n a]; rfl
theorem plain_r (a : List Nat) : plain (rD a) = true := plains_n a
theorem frozs_n : ∀ a : List Nat, frozs (a.map nD) = true
  | [] => rfl
  | x :: a => by
    show (true && frozs (a.map nD)) = true
    rw [frozs_n a]; rfl
theorem froz_r (a : List Nat) : froz (rD a) = true := frozs_n a
theorem plains_r : ∀ a : List (List Nat), plains (a.map rD) = true
  | [] => rfl
  | x :: a => by
    show (plain (rD x) && plains (a.map rD)) = true
    rw [plain_r, plains_r a]; rfl
theorem frozs_r : ∀ a : List (List Nat), frozs (a.map rD) = true
  | [] => rfl
  | x :: a => by
    show (froz (rD x) && frozs (a.map rD)) = true
    rw [froz_r, frozs_r a]; rfl
theorem depth_n : ∀ a : List Nat, PyData.depthAll ((a.map fun (x : Nat) => (x : Int)).map PyData.int) ≤ 1
  | [] => by simp [PyData.depthAll]
  | x :: a => by
    rw [List.map_cons, List.map_cons, PyData.depthAll]
    have := depth_n a
    have h : PyData.depth (.int (x : Int)) ≤ 1 := by simp [PyData.depth]
    omega
theorem deep_r (a : List Nat) : deep (rD a) ≤ 2 := by
  show PyData.depth (toP (rD a)) ≤ 2
  rw [toP_r, PyData.depth]
  have := depth_n a
  omega
theorem alikeAll_n : ∀ a b : List Nat, alikeAll ((a.map fun (x : Nat) => (x : Int)).map PyData.int) ((b.map fun (x : Nat) => (x : Int)).map PyData.int) = true
  | [], _ => by rw [List.map_nil, List.map_nil, alikeAll]
  | x :: xs, [] => by
    rw [List.map_nil, List.map_nil, List.map_cons, List.map_cons, alikeAll]
  | x :: xs, y :: ys => by
    rw [List.map_cons, List.map_cons, List.map_cons, List.map_cons, alikeAll, alikeAll_n xs ys, alike]; rfl
theorem alike_r (a b : List Nat) : alikeD (rD a) (rD b) = true := by
  show alike (toP (rD a)) (toP (rD b)) = true
  rw [toP_r, toP_r, alike]
  exact alikeAll_n a b
theorem eqOk_r (a b : List Nat) : eqOk (rD a) (rD b) = true := by
  unfold eqOk
  have := deep_r a
  rw [plain_r, plain_r, decide_eq_true (by omega)]; rfl
theorem ordOk_r (a b : List Nat) : ordOk (rD a) (rD b) = true := by
  unfold ordOk
  have := deep_r a
  rw [plain_r, plain_r, alike_r, decide_eq_true (by omega)]; rfl
theorem req (a b : List Nat) : cmpD .eq (rD a) (rD b) = .ok (.bl (decide (a = b))) := by
  rw [cmpD, eqD_r]; exact guardR_t (eqOk_r a b)
theorem rne (a b : List Nat) : cmpD .ne (rD a) (rD b) = .ok (.bl (!decide (a = b))) := by
  rw [cmpD, eqD_r]; exact guardR_t (eqOk_r a b)
theorem rlt (a b : List Nat) : cmpD .lt (rD a) (rD b) = .ok (.bl (ltR a b)) := by
  rw [cmpD, ltD_r]; exact guardR_t (ordOk_r a b)
theorem any_r (a : List Nat) (l : List (List Nat)) : ((l.map rD).any fun y => eqD y (rD a)) = decide (a ∈ l) := by
  induction l with
  | nil => simp
  | cons x l ih =>
    rw [List.map_cons, List.any_cons, ih, eqD_r, ← Bool.decide_or]
    refine decide_eq_decide.mpr ?_
    rw [List.mem_cons]
    exact ⟨fun h => h.imp Eq.symm id, fun h => h.imp Eq.symm id⟩
theorem any_n (a : Nat) (l : List Nat) : ((l.map nD).any fun y => eqD y (nD a)) = decide (a ∈ l) := by
  induction l with
  | nil => simp
  | cons x l ih =>
    rw [List.map_cons, List.any_cons, ih, eqD_n, ← Bool.decide_or]
    refine decide_eq_decide.mpr ?_
    rw [List.mem_cons]
    exact ⟨fun h => h.imp Eq.symm id, fun h => h.imp Eq.symm id⟩
theorem rin_t (a : List Nat) (l : List (List Nat)) : cmpD .isin (rD a) (.tup (l.map rD)) = .ok (.bl (decide (a ∈ l))) := by
  have := deep_r a
  rw [cmpD, any_r]; exact guardR_t (by rw [plain_r, plains_r, decide_eq_true (by omega)]; rfl)
theorem rin_l (a : List Nat) (l : List (List Nat)) : cmpD .isin (rD a) (.lst (l.map rD)) = .ok (.bl (decide (a ∈ l))) := by
  have := deep_r a
  rw [cmpD, any_r]; exact guardR_t (by rw [plain_r, plains_r, decide_eq_true (by omega)]; rfl)
theorem rni_t (a : List Nat) (l : List (List Nat)) : cmpD .notin (rD a) (.tup (l.map rD)) = .ok (.bl (!decide (a ∈ l))) := by
  have := deep_r a
  rw [cmpD, any_r]; exact guardR_t (by rw [plain_r, plains_r, decide_eq_true (by omega)]; rfl)
theorem rni_l (a : List Nat) (l : List (List Nat)) : cmpD .notin (rD a) (.lst (l.map rD)) = .ok (.bl (!decide (a ∈ l))) := by
  have := deep_r a
  rw [cmpD, any_r]; exact guardR_t (by rw [plain_r, plains_r, decide_eq_true (by omega)]; rfl)
theorem deep_n (a : Nat) : deep (nD a) ≤ 1 := by
  show PyData.depth (.int (a : Int)) ≤ 1
  simp [PyData.depth]
theorem nin_t (a : Nat) (l : List Nat) : cmpD .isin (nD a) (rD l) = .ok (.bl (decide (a ∈ l))) := by
  have := deep_n a
  rw [cmpD, any_n]; exact guardR_t (by rw [plains_n, decide_eq_true (by omega)]; rfl)
theorem nin_l (a : Nat) (l : List Nat) : cmpD .isin (nD a) (lD l) = .ok (.bl (decide (a ∈ l))) := by
  have := deep_n a
  rw [cmpD, any_n]; exact guardR_t (by rw [plains_n, decide_eq_true (by omega)]; rfl)
theorem neq (a b : Nat) : cmpD .eq (nD a) (nD b) = .ok (.bl (decide (a = b))) := by
  rw [eq_i]
  rw [show decide ((a : Int) = (b : Int)) = decide (a = b) from decide_eq_decide.mpr Int.ofNat_inj]
/-- lists of numbers, alike -/
theorem toP_l (a : List Nat) : toP (lD a) = .list ((a.map fun (x : Nat) => (x : Int)).map PyData.int) := by
  show PyData.list (toPs (a.map nD)) = _
  rw [toPs_n]
theorem lne (a b : List Nat) : cmpD .ne (lD a) (lD b) = .ok (.bl (!decide (a = b))) := by
  have h1 : eqD (lD a) (lD b) = decide (a = b) := by
    show PyData.eqv (toP (lD a)) (toP (lD b)) = _
    rw [toP_l, toP_l, PyData.eqv, eqv_ints]
  have h2 : deep (lD a) ≤ 2 := by
    show PyData.depth (toP (lD a)) ≤ 2
    rw [toP_l, PyData.depth]
    have := depth_n a
    omega
  rw [cmpD, h1]
  refine guardR_t ?_
  unfold eqOk
  rw [show plain (lD a) = true from plains_n a, show plain (lD b) = true from plains_n b, decide_eq_true (by omega)]; rfl
/-- the least of rows -/
def minR (x : List Nat) (xs : List (List Nat)) : List Nat := xs.foldl (fun a y => if ltR y a then y else a) x
theorem minDD_r : ∀ (xs : List (List Nat)) (x : List Nat), minDD (rD x) (xs.map rD) = rD (minR x xs)
  | [], x => rfl
  | y :: xs, x => by
    show (xs.map rD).foldl _ (if ltD (rD y) (rD x) then rD y else rD x) = _
    rw [ltD_r, ← apply_ite rD]
    exact minDD_r xs _
theorem sortOk_r (xs : List (List Nat)) : sortOk (xs.map rD) = true := by
  unfold sortOk
  rw [Bool.and_eq_true, Bool.and_eq_true]
  refine ⟨⟨plains_r xs, List.all_eq_true.mpr fun x hx => List.all_eq_true.mpr fun y hy => ?_⟩, List.all_eq_true.mpr fun x hx => ?_⟩
  · obtain ⟨a, _, rfl⟩ := List.mem_map.mp hx
    obtain ⟨b, _, rfl⟩ := List.mem_map.mp hy
    exact alike_r a b
  · obtain ⟨a, _, rfl⟩ := List.mem_map.mp hx
    have := deep_r a
    rw [decide_eq_true (by omega)]; rfl
theorem min1_r (x : List Nat) (xs : List (List Nat)) : biD .min1 [.lst ((x :: xs).map rD)] = .ok (rD (minR x xs)) := by
  show guardR (sortOk (rD x :: xs.map rD)) (.ok (minDD (rD x) (xs.map rD))) = _
  rw [guardR_t (show sortOk (rD x :: xs.map rD) = true from sortOk_r (x :: xs)), minDD_r]
theorem idx_t {xs : List D} {i : Nat} {x : D} (h : xs[i]? = some x) : idxD (.tup xs) (.int (i : Int)) = .ok x := by
  show R.ofO (L2.atI xs (i : Int)) = _
  rw [at_ok h]; rfl
theorem idx_r {a : List Nat} {i v : Nat} (h : a[i]? = some v) : idxD (rD a) (nD i) = .ok (nD v) := idx_t (by rw [List.getElem?_map, h]; rfl)
theorem idx_ln {a : List Nat} {i v : Nat} (h : a[i]? = some v) : idxD (lD a) (nD i) = .ok (nD v) := idx_l (by rw [List.getElem?_map, h]; rfl)
theorem intsD_range (n : Nat) : ∀ lo, intsD (lo : Nat) n = (List.range' lo n).map nD := by
  induction n with
  | zero => intro lo; rfl
  | succ n ih =>
    intro lo
    rw [intsD, List.range'_succ, List.map_cons]
    have := ih (lo + 1)
    rw [show ((lo + 1 : Nat) : Int) = (lo : Int) + 1 from rfl] at this
    rw [this]
theorem ints_r (n : Nat) : intsD 0 n = (List.range n).map nD := by
  have := intsD_range n 0
  rw [List.range_eq_range']
  exact this
end PD.Core
end

section
set_option Elab.async false
set_option linter.all false
set_option maxRecDepth 100000
/-! PD, part 24: any book of the seventeen backs. -/
namespace PD.Core
open PySem PD
variable {B : Nat → Option FnI} {fi : Nat → Str → Option Nat} {sub : Nat → Nat → Bool} {fu : Nat}
def backs : List (List Nat) := [[0], [0, 1], [1, 0], [0, 1, 2], [1, 0, 2], [2, 1, 0], [0, 2, 1], [0, 1, 2, 3], [1, 0, 2, 3], [2, 1, 0, 3], [3, 1, 2, 0], [0, 2, 1, 3], [0, 3, 2, 1], [0, 1, 3, 2], [1, 0, 3, 2], [2, 3, 0, 1], [3, 2, 1, 0]]
/-- a kind from the other side -/
def bk (b : List Nat) (p : Nat) : Nat := b.getD p 0
def tells (b : List Nat) (p q r : Nat) : List (List Nat) := [[p, q, r], [bk b p, r, q], [r, bk b q, p], [bk b q, bk b p, bk b r], [q, bk b r, bk b p], [bk b r, p, bk b q]]
def form3 (b : List Nat) (p q r : Nat) : List Nat := minR [p, q, r] [[bk b p, r, q], [r, bk b q, p], [bk b q, bk b p, bk b r], [q, bk b r, bk b p], [bk b r, p, bk b q]]
def formR (b : List Nat) (t : List Nat) : List Nat := form3 b (t.getD 0 0) (t.getD 1 0) (t.getD 2 0)
theorem bk_get {b : List Nat} {p : Nat} (h : p < b.length) : b[p]? = some (bk b p) := by
  unfold bk
  rw [List.getD_eq_getElem?_getD, List.getElem?_eq_getElem h]; rfl
theorem bk_idx {b : List Nat} {p : Nat} (h : p < b.length) : idxD (rD b) (nD p) = .ok (nD (bk b p)) := idx_r (bk_get h)
/-- a tuple of three -/
theorem ev_t3 {T : Tab} {ρ : PD.Env} {a b c : Ex} {x y z : Nat} (ha : ev T a ρ = .ok (nD x)) (hb : ev T b ρ = .ok (nD y)) (hc : ev T c ρ = .ok (nD z)) : ev T (.tup (.cons a (.cons b (.cons c .nil)))) ρ = .ok (rD [x, y, z]) :=
  bindO (evsC ha (evsC hb (evsC hc rfl))) rfl
theorem ev_l1 {T : Tab} {ρ : PD.Env} {a : Ex} {x : D} (ha : ev T a ρ = .ok x) : ev T (.lst (.cons a .nil)) ρ = .ok (.lst [x]) := bindO (evs1 ha) rfl
theorem c7 (h7 : B 7 = some f7) {k : Nat} {b : List Nat} {p q r : Nat} (hp : p < b.length) (hq : q < b.length) (hr : r < b.length) :
    callF B fi sub fu (k+1) 7 [rD b, rD [p, q, r]] = .ok (.lst ((tells b p q r).map rD)) := by
  refine callF_run (f := f7) (ρ := [sh (rD b), sh (rD [p, q, r]), none, none, none]) h7 rfl rfl ?_
  refine stepB (ρ' := [sh (rD b), sh (rD [p, q, r]), sh (nD p), sh (nD q), sh (nD r)]) (rn_asgt (x := rD [p, q, r]) rfl rfl rfl) ?_
  have ip := (ev_idx (T := tb B fi sub fu k) (ρ := [sh (rD b), sh (rD [p, q, r]), sh (nD p), sh (nD q), sh (nD r)]) (a := .var 0) (b := .var 2) rfl rfl).trans (bk_idx hp)
  have iq := (ev_idx (T := tb B fi sub fu k) (ρ := [sh (rD b), sh (rD [p, q, r]), sh (nD p), sh (nD q), sh (nD r)]) (a := .var 0) (b := .var 3) rfl rfl).trans (bk_idx hq)
  have ir := (ev_idx (T := tb B fi sub fu k) (ρ := [sh (rD b), sh (rD [p, q, r]), sh (nD p), sh (nD q), sh (nD r)]) (a := .var 0) (b := .var 4) rfl rfl).trans (bk_idx hr)
  refine ret_b (d := .lst ((tells b p q r).map rD)) ?_ fun _ => rfl
  exact bindO (evsC (ev_t3 (x := p) (y := q) (z := r) rfl rfl rfl) (evsC (ev_t3 ip rfl rfl) (evsC (ev_t3 rfl iq rfl) (evsC (ev_t3 iq ip ir) (evsC (ev_t3 rfl ir ip) (evsC (ev_t3 ir rfl iq) rfl)))))) rfl
theorem c11 (h11 : B 11 = some f11) {k : Nat} {b : List Nat} {p q r : Nat} (hp : p < b.length) (hq : q < b.length) (hr : r < b.length) :
    callF B fi sub fu (k+1) 11 [rD b, nD p, nD q, nD r] = .ok (.lst ((tells b p q r).map rD)) := by
  refine callF_run (f := f11) (ρ := [sh (rD b), sh (nD p), sh (nD q), sh (nD r), none]) h11 rfl rfl ?_
  have ip := (ev_idx (T := tb B fi sub fu k) (ρ := [sh (rD b), sh (nD p), sh (nD q), sh (nD r), none]) (a := .var 0) (b := .var 1) rfl rfl).trans (bk_idx hp)
  have iq := (ev_idx (T := tb B fi sub fu k) (ρ := [sh (rD b), sh (nD p), sh (nD q), sh (nD r), none]) (a := .var 0) (b := .var 2) rfl rfl).trans (bk_idx hq)
  have ir := (ev_idx (T := tb B fi sub fu k) (ρ := [sh (rD b), sh (nD p), sh (nD q), sh (nD r), none]) (a := .var 0) (b := .var 3) rfl rfl).trans (bk_idx hr)
  refine stepB (ρ' := [sh (rD b), sh (nD p), sh (nD q), sh (nD r), some (.f (.ol (([[p, q, r], [bk b p, r, q], [r, bk b q, p], [bk b q, bk b p, bk b r], [q, bk b r, bk b p]]).map rD)))]) ?_ ?_
  · refine bindO (x := .lst (([[p, q, r], [bk b p, r, q], [r, bk b q, p], [bk b q, bk b p, bk b r], [q, bk b r, bk b p]]).map rD)) ?_ ?_
    · exact bindO (evsC (ev_t3 (x := p) (y := q) (z := r) rfl rfl rfl) (evsC (ev_t3 ip rfl rfl) (evsC (ev_t3 rfl iq rfl) (evsC (ev_t3 iq ip ir) (evsC (ev_t3 rfl ir ip) rfl))))) rfl
    · rw [keepN_id rfl]; rfl
  · refine ret_b (d := .lst ((tells b p q r).map rD)) ?_ fun _ => rfl
    have jr := (ev_idx (T := tb B fi sub fu k) (ρ := [sh (rD b), sh (nD p), sh (nD q), sh (nD r), some (.f (.ol (([[p, q, r], [bk b p, r, q], [r, bk b q, p], [bk b q, bk b p, bk b r], [q, bk b r, bk b p]]).map rD)))]) (a := .var 0) (b := .var 3) rfl rfl).trans (bk_idx hr)
    have jq := (ev_idx (T := tb B fi sub fu k) (ρ := [sh (rD b), sh (nD p), sh (nD q), sh (nD r), some (.f (.ol (([[p, q, r], [bk b p, r, q], [r, bk b q, p], [bk b q, bk b p, bk b r], [q, bk b r, bk b p]]).map rD)))]) (a := .var 0) (b := .var 2) rfl rfl).trans (bk_idx hq)
    exact (ev_bin rfl (ev_l1 (ev_t3 jr (y := p) rfl jq))).trans rfl
theorem c12 (h11 : B 11 = some f11) (h12 : B 12 = some f12) {k : Nat} {b : List Nat} {p q r : Nat} (hp : p < b.length) (hq : q < b.length) (hr : r < b.length) :
    callF B fi sub fu (k+2) 12 [rD b, nD p, nD q, nD r] = .ok (rD (form3 b p q r)) := by
  refine callF_run (f := f12) (ρ := [sh (rD b), sh (nD p), sh (nD q), sh (nD r)]) h12 rfl rfl ?_
  exact ret_b (ev_bi (evs1 (cl (xs := [rD b, nD p, nD q, nD r]) rfl (c11 h11 hp hq hr))) (min1_r _ _)) fun _ => rfl
theorem c16 (h11 : B 11 = some f11) (h12 : B 12 = some f12) (h16 : B 16 = some f16) {k : Nat} {b : List Nat} {bs : List (List Nat)} {p q r : Nat} (hp : p < b.length) (hq : q < b.length) (hr : r < b.length) :
    callF B fi sub fu (k+3) 16 [rD b, .tup (bs.map rD), nD p, nD q, nD r] = .ok (.bl (!decide (form3 b p q r ∈ bs))) := by
  refine callF_run (f := f16) (ρ := [sh (rD b), sh (.tup (bs.map rD)), sh (nD p), sh (nD q), sh (nD r)]) h16 rfl rfl ?_
  exact ret_b ((ev_cmp (cl (xs := [rD b, nD p, nD q, nD r]) rfl (c12 h11 h12 hp hq hr)) rfl).trans (rni_t _ _)) fun _ => rfl
/-! all rows of three -/
def tris (n : Nat) : List (List Nat) := (List.range n).flatMap fun p => (List.range n).flatMap fun q => (List.range n).map fun r => [p, q, r]
def rowsOf (n : Nat) : Nat → List (List Nat)
  | 0 => [[]]
  | m + 1 => (rowsOf n m).flatMap fun a => (List.range n).map fun x => a ++ [x]
theorem c2 (h2 : B 2 = some f2) {k m n : Nat} (hn : n = 1 ∨ n = 2 ∨ n = 3 ∨ n = 4) : callF B fi sub (m + 4) (k+1) 2 [.int 3, nD n] = .ok (.lst ((tris n).map rD)) := by
  rcases hn with rfl | rfl | rfl | rfl
  all_goals
    refine callF_run (f := f2) (ρ := [sh (.int 3), sh (nD _), none, none, none]) h2 rfl rfl ?_
    kernel_rfl
theorem c4 (h3 : B 3 = some f3) (h4 : B 4 = some f4) {k p n : Nat} : callF B fi sub fu (k+2) 4 [nD p, nD n] = .ok (.bl (decide (p < n))) := by
  have e3 : callF B fi sub fu (k+1) 3 [nD p] = .ok (.bl true) := by
    refine callF_run (f := f3) (ρ := [sh (nD p)]) h3 rfl rfl ?_
    exact ret_b (d := .bl true) rfl fun _ => rfl
  refine callF_run (f := f4) (ρ := [sh (nD p), sh (nD n)]) h4 rfl rfl ?_
  refine ret_b (d := .bl (decide (p < n))) ?_ fun _ => rfl
  refine ev_and_t (cl (xs := [nD p]) rfl e3) ?_
  have := ev_cmp2 (T := tb B fi sub fu (k+1)) (ρ := [sh (nD p), sh (nD n)]) (o := .le) (o' := .lt) (a := .cI 0) (b := .var 0) (c := .var 1) (k := true) (l := decide ((p : Int) < n)) rfl rfl ((le_i 0 p).trans (by rw [decide_eq_false (by omega)]; rfl)) rfl (lt_i p n)
  rw [this, Bool.true_and, show decide ((p : Int) < (n : Int)) = decide (p < n) from decide_eq_decide.mpr Int.ofNat_lt]
theorem c6 (h3 : B 3 = some f3) (h4 : B 4 = some f4) (h6 : B 6 = some f6) {k n : Nat} {a : List Nat} (ha : a.length ≤ 1000) (hb : ∀ x ∈ a, x < n) : callF B fi sub fu (k+3) 6 [rD a, nD a.length, nD n] = .ok (.bl true) := by
  refine callF_run (f := f6) (ρ := [sh (rD a), sh (nD a.length), sh (nD n), none]) h6 rfl rfl ?_
  refine stepB (rn_if_n (ev_or_f (evNot (k := true) rfl) ((ev_cmp (x := nD a.length) (y := nD a.length) (ev_bi (evs1 (x := rD a) rfl) (by show R.ok (D.int ((a.map nD).length : Int)) = _; rw [List.length_map])) rfl).trans ((ne_i _ _).trans (by rw [decide_eq_true rfl]; rfl))))) ?_
  refine ret_b (d := .bl true) ?_ fun _ => rfl
  refine ev_bi (evs1 (ev_lc (xs := a.map nD) (F := fun _ => .bl true) rfl ?_ fun x hx => ?_)) (all_true _)
  · rw [List.length_map]; exact Nat.le_trans ha (by decide)
  · obtain ⟨y, hy, rfl⟩ := List.mem_map.mp hx
    refine ⟨[sh (rD a), sh (nD a.length), sh (nD n), sh (nD y)], rfl, ?_⟩
    exact cl (xs := [nD y, nD n]) rfl ((c4 h3 h4).trans (by rw [decide_eq_true (hb y hy)]))
theorem c5 (h3 : B 3 = some f3) (h4 : B 4 = some f4) (h5 : B 5 = some f5) {k : Nat} {b : List Nat} (h0 : 0 < b.length) (h1 : b.length ≤ 4) (hb : ∀ x ∈ b, x < b.length) (hi : ∀ p, p < b.length → bk b (bk b p) = p) : callF B fi sub fu (k+3) 5 [rD b] = .ok (.bl true) := by
  have hlen : biD .len [rD b] = .ok (nD b.length) := by show R.ok (D.int ((b.map nD).length : Int)) = _; rw [List.length_map]
  refine callF_run (f := f5) (ρ := [sh (rD b), none]) h5 rfl rfl ?_
  have g1 : ev (tb B fi sub fu (k+2)) (.not (.cmp2 .le .le (.cI 1) (.bi .len (.cons (.var 0) .nil)) (.gI "MOST_KINDS" 4))) [sh (rD b), none] = .ok (.bl false) := by
    refine evNot (k := true) ?_
    refine ev_cmp2 (k := true) (l := true) (y := nD b.length) rfl (ev_bi (evs1 (x := rD b) rfl) hlen) ((le_i 1 b.length).trans (by rw [decide_eq_false (by omega)]; rfl)) rfl ((le_i b.length 4).trans (by rw [decide_eq_false (by omega)]; rfl))
  refine stepB (rn_if_n (ev_or_f (evNot (k := true) rfl) g1)) ?_
  have g2 : ev (tb B fi sub fu (k+2)) (.not (.bi .all (.cons (.lc [1] (.n 1) (.e (.var 0)) .nil (.call 4 (.cons (.var 1) (.cons (.bi .len (.cons (.var 0) .nil)) .nil)))) .nil))) [sh (rD b), none] = .ok (.bl false) := by
    refine evNot (k := true) (ev_bi (evs1 (ev_lc (xs := b.map nD) (F := fun _ => .bl true) rfl ?_ fun x hx => ?_)) (all_true _))
    · rw [List.length_map]; exact Nat.le_trans h1 (by decide)
    · obtain ⟨y, hy, rfl⟩ := List.mem_map.mp hx
      refine ⟨[sh (rD b), sh (nD y)], rfl, ?_⟩
      exact cl (xs := [nD y, nD b.length]) (evsC rfl (evs1 (ev_bi (evs1 (x := rD b) rfl) hlen))) ((c4 h3 h4).trans (by rw [decide_eq_true (hb y hy)]))
  refine stepB (rn_if_n g2) ?_
  refine ret_b (d := .bl true) ?_ fun _ => rfl
  refine ev_bi (evs1 (ev_lc (xs := (List.range b.length).map nD) (F := fun _ => .bl true) ?_ ?_ fun x hx => ?_)) (all_true _)
  · have := evIt_r1 (T := tb B fi sub fu (k+2)) (ρ := [sh (rD b), none]) (a := .bi .len (.cons (.var 0) .nil)) (j := (b.length : Int)) (ev_bi (evs1 (x := rD b) rfl) hlen) (smallI_nat (by omega))
    rw [this, show ((b.length : Int)).toNat = b.length from rfl, ints_r]
  · rw [List.length_map, List.length_range]; exact Nat.le_trans h1 (by decide)
  · obtain ⟨y, hy, rfl⟩ := List.mem_map.mp hx
    have hy := List.mem_range.mp hy
    refine ⟨[sh (rD b), sh (nD y)], rfl, ?_⟩
    have hb2 : bk b y < b.length := hb _ (List.mem_of_getElem? (bk_get hy))
    exact (ev_cmp ((ev_idx rfl ((ev_idx rfl rfl).trans (bk_idx hy))).trans (bk_idx hb2)) rfl).trans ((neq _ _).trans (by rw [hi y hy, decide_eq_true rfl]))
/-! the forms -/
def addF (l : List (List Nat)) (f : List Nat) : List (List Nat) := if f ∈ l then l else l ++ [f]
def formsU (b : List Nat) (i : Nat) : List (List Nat) := (List.range i).foldl (fun l x => addF l (form3 b (x / (b.length * b.length)) (x / b.length % b.length) (x % b.length))) []
theorem formsU_succ (b : List Nat) (i : Nat) : formsU b (i + 1) = addF (formsU b i) (form3 b (i / (b.length * b.length)) (i / b.length % b.length) (i % b.length)) := by
  unfold formsU
  rw [List.range_succ, List.foldl_append]; rfl
theorem formsU_len (b : List Nat) : ∀ i, (formsU b i).length ≤ i
  | 0 => Nat.le_refl 0
  | i + 1 => by
    have := formsU_len b i
    rw [formsU_succ]
    unfold addF
    split
    · omega
    · rw [List.length_append]; show _ + 1 ≤ _; omega
/-- .. as sorted tells them -/
def forms (b : List Nat) : List (List Nat) := (formsU b (b.length * b.length * b.length)).mergeSort fun x y => !ltR y x
def okB (r : R D) (d : D) : Bool := match r with
  | .ok x => beqD x d
  | _ => false
theorem okB_ok {r : R D} {d : D} (h : okB r d = true) : r = .ok d := by
  unfold okB at h
  split at h
  · rw [beqD_ok h]
  · cases h
end PD.Core
end

section
set_option Elab.async false
set_option linter.all false
set_option maxRecDepth 100000
/-! PD, part 25: any book of the seventeen backs, as the laws draw it. -/
namespace PD.Core
open PySem PD PySem.W
variable {B : Nat → Option FnI} {fi : Nat → Str → Option Nat} {sub : Nat → Nat → Bool} {fu : Nat}
abbrev formsOf (b : List Nat) : List (List Nat) := formsU b (b.length * b.length * b.length)
/-- closed facts of the backs -/
def backG (b : List Nat) : Bool := decide (0 < b.length) && decide (b.length ≤ 4) && (b.all fun x => decide (x < b.length)) && ((List.range b.length).all fun p => bk b (bk b p) == p) &&
  ((formsOf b).all fun t => t.length == 3 && (t.all fun x => decide (x < b.length)) && formR b t == t) && decide ((formsOf b).Pairwise fun x y => ltR x y = true ∧ ltR y x = false) && decide ((formsOf b).length ≤ 64) && decide ((tris b.length).Nodup) &&
  ((tris b.length).all fun t => (match t with
    | [p, q, r] => decide (p < b.length) && decide (q < b.length) && decide (r < b.length) && decide (form3 b p q r ∈ formsOf b) && decide (form3 b (bk b p) r q = form3 b p q r)
    | _ => false))
theorem backs_G : backs.all backG = true := by decide +kernel
structure BackOk (b : List Nat) : Prop where
  pos : 0 < b.length
  le : b.length ≤ 4
  bel : ∀ x ∈ b, x < b.length
  inv : ∀ p, p < b.length → bk b (bk b p) = p
  f3 : ∀ t ∈ formsOf b, t.length = 3 ∧ (∀ x ∈ t, x < b.length) ∧ formR b t = t
  fs : (formsOf b).Pairwise fun x y => ltR x y = true ∧ ltR y x = false
  fl : (formsOf b).length ≤ 64
  nd : (tris b.length).Nodup
  tri : ∀ t ∈ tris b.length, ∃ p q r, t = [p, q, r] ∧ p < b.length ∧ q < b.length ∧ r < b.length ∧ form3 b p q r ∈ formsOf b ∧ form3 b (bk b p) r q = form3 b p q r
theorem back_ok {b : List Nat} (hb : b ∈ backs) : BackOk b := by
  have h := List.all_eq_true.mp backs_G b hb
  unfold backG at h
  simp only [Bool.and_eq_true, decide_eq_true_eq, List.all_eq_true, List.mem_range, beq_iff_eq] at h
  obtain ⟨⟨⟨⟨⟨⟨⟨⟨h1, h2⟩, h3⟩, h4⟩, h5⟩, h6⟩, h7⟩, h8⟩, h9⟩ := h
  refine ⟨h1, h2, h3, h4, fun t ht => ⟨(h5 t ht).1.1, (h5 t ht).1.2, (h5 t ht).2⟩, h6, h7, h8, fun t ht => ?_⟩
  have h := h9 t ht
  match t, h with
  | [p, q, r], h =>
    simp only [Bool.and_eq_true, decide_eq_true_eq] at h
    exact ⟨p, q, r, rfl, h.1.1.1.1, h.1.1.1.2, h.1.1.2, h.1.2, h.2⟩
theorem mem_tris {n p q r : Nat} (hp : p < n) (hq : q < n) (hr : r < n) : [p, q, r] ∈ tris n := by
  unfold tris
  exact List.mem_flatMap.mpr ⟨p, List.mem_range.mpr hp, List.mem_flatMap.mpr ⟨q, List.mem_range.mpr hq, List.mem_map.mpr ⟨r, List.mem_range.mpr hr, rfl⟩⟩⟩
/-- the loop's own name -/
def lvN (o : Option OD) : Nat → Option OD
  | 0 => o
  | i + 1 => sh (nD i)
theorem loopN {f : D → PD.Env → R Fl} (n : Nat) (I : Nat → PD.Env → Prop) (ρ : PD.Env) (h : ∀ i ρ, i < n → I i ρ → ∃ ρ', f (nD i) ρ = .ok (.nx ρ') ∧ I (i + 1) ρ') (h0 : I 0 ρ) : ∃ ρ', loopF f (intsD 0 n) ρ = .ok (.nx ρ') ∧ I n ρ' :=
  loopF_inv n 0 I ρ (fun i ρ hi hI => by rw [show (0 : Int) + (i : Int) = (i : Int) by omega]; exact h i ρ hi hI) h0
theorem len_r (a : List Nat) : biD .len [rD a] = .ok (nD a.length) := by show R.ok (D.int ((a.map nD).length : Int)) = _; rw [List.length_map]
theorem len_lr (a : List (List Nat)) : biD .len [.lst (a.map rD)] = .ok (nD a.length) := by show R.ok (D.int ((a.map rD).length : Int)) = _; rw [List.length_map]
theorem len_ln (a : List Nat) : biD .len [lD a] = .ok (nD a.length) := by show R.ok (D.int ((a.map nD).length : Int)) = _; rw [List.length_map]
theorem nmul (a b : Nat) : ((a : Int) * (b : Int)) = ((a * b : Nat) : Int) := rfl
section
variable {T : Tab} {ρ : PD.Env} {e e' : Ex} {x y : Nat}
theorem evn_mul (ha : ev T e ρ = .ok (nD x)) (hb : ev T e' ρ = .ok (nD y)) (h : x < 2 ^ 60) : ev T (.bin .mul e e') ρ = .ok (nD (x * y)) := ev_mul ha hb (mulOk_l (small_of (by omega) (by omega)))
theorem evn_add (ha : ev T e ρ = .ok (nD x)) (hb : ev T e' ρ = .ok (nD y)) : ev T (.bin .add e e') ρ = .ok (nD (x + y)) := ev_add ha hb
theorem evn_sub (ha : ev T e ρ = .ok (nD x)) (hb : ev T e' ρ = .ok (nD y)) (h : y ≤ x) : ev T (.bin .sub e e') ρ = .ok (nD (x - y)) := by
  rw [ev_sub ha hb, show (x : Int) - (y : Int) = ((x - y : Nat) : Int) by omega]
theorem evn_mod (ha : ev T e ρ = .ok (nD x)) (hb : ev T e' ρ = .ok (nD y)) (h : 0 < y) : ev T (.bin .mod e e') ρ = .ok (nD (x % y)) := ev_mod ha hb (by omega)
theorem evn_fdiv (ha : ev T e ρ = .ok (nD x)) (hb : ev T e' ρ = .ok (nD y)) (h : 0 < y) (h2 : y < 2 ^ 60) : ev T (.bin .fdiv e e') ρ = .ok (nD (x / y)) := ev_fdiv ha hb (by omega) (log_small (by omega) (by omega))
theorem evn_eq (ha : ev T e ρ = .ok (nD x)) (hb : ev T e' ρ = .ok (nD y)) : ev T (.cmp .eq e e') ρ = .ok (.bl (decide (x = y))) := (ev_cmp ha hb).trans (neq x y)
end
/-! the law's forms -/
abbrev FV (b : List Nat) (l : List (List Nat)) (o3 o4 : Option OD) : PD.Env := [sh (rD b), some (.f (.ol (l.map rD))), sh (nD b.length), o3, o4]
theorem c13 (h11 : B 11 = some f11) (h12 : B 12 = some f12) (h13 : B 13 = some f13) {k : Nat} {b : List Nat} (hb : BackOk b) :
    callF B fi sub fu (k+3) 13 [rD b] = .ok (.lst ((formsOf b).map rD)) := by
  have hn := hb.pos
  have hn4 := hb.le
  have hnn : 0 < b.length * b.length := Nat.mul_pos hn hn
  have hnl : b.length * b.length ≤ 4 * 4 := Nat.mul_le_mul hn4 hn4
  have hnl3 : b.length * b.length * b.length ≤ 4 * 4 * 4 := Nat.mul_le_mul hnl hn4
  refine callF_run (f := f13) (ρ := [sh (rD b), none, none, none, none]) h13 rfl rfl ?_
  refine stepB (ρ' := [sh (rD b), some (.f (.ol [])), none, none, none]) rfl ?_
  refine stepB (ρ' := FV b [] none none) (rn_asg (ev_bi (evs1 (x := rD b) rfl) (len_r b)) rfl rfl rfl) ?_
  obtain ⟨ρ', h1, o4, he⟩ := loopN (f := fun x ρ => (bindT (.n 3) x ρ).bind fun ρ => rns (tb B fi sub fu (k+2)) (.cons (.asg (.n 4) (.call 12 (.cons (.var 0) (.cons (.bin .fdiv (.var 3) (.bin .mul (.var 2) (.var 2))) (.cons (.bin .mod (.bin .fdiv (.var 3) (.var 2)) (.var 2)) (.cons (.bin .mod (.var 3) (.var 2)) .nil)))))) (.cons (.ife (.cmp .notin (.var 4) (.var 1)) (.cons (.app 1 (.var 4)) .nil) .nil) .nil)) ρ)
    (b.length * b.length * b.length) (fun i ρ => ∃ o4, ρ = FV b (formsU b i) (lvN none i) o4) (FV b [] none none) (fun i ρ hi ⟨o4, e⟩ => by
      subst e
      have hp : i / (b.length * b.length) < b.length := (Nat.div_lt_iff_lt_mul hnn).mpr (by rw [Nat.mul_comm b.length (b.length * b.length)]; exact hi)
      have hq : i / b.length % b.length < b.length := Nat.mod_lt _ hn
      have hr : i % b.length < b.length := Nat.mod_lt _ hn
      refine ⟨FV b (formsU b (i + 1)) (sh (nD i)) (sh (rD (form3 b (i / (b.length * b.length)) (i / b.length % b.length) (i % b.length)))), bindO (x := FV b (formsU b i) (sh (nD i)) o4) rfl ?_, _, rfl⟩
      refine stp (ρ' := FV b (formsU b i) (sh (nD i)) (sh (rD (form3 b (i / (b.length * b.length)) (i / b.length % b.length) (i % b.length))))) ?_ ?_
      · refine rn_asg (cl (xs := [rD b, nD (i / (b.length * b.length)), nD (i / b.length % b.length), nD (i % b.length)]) ?_ (c12 h11 h12 hp hq hr)) rfl rfl rfl
        refine evsC rfl (evsC (evn_fdiv rfl (evn_mul (x := b.length) (y := b.length) rfl rfl (by omega)) hnn (by omega)) (evsC (evn_mod (evn_fdiv (x := i) (y := b.length) rfl rfl hn (by omega)) rfl hn) (evsC (evn_mod (x := i) (y := b.length) rfl rfl hn) rfl)))
      · have hg : ev (tb B fi sub fu (k+2)) (.cmp .notin (.var 4) (.var 1)) (FV b (formsU b i) (sh (nD i)) (sh (rD (form3 b (i / (b.length * b.length)) (i / b.length % b.length) (i % b.length))))) = .ok (.bl (!decide (form3 b (i / (b.length * b.length)) (i / b.length % b.length) (i % b.length) ∈ formsU b i))) := (ev_cmp rfl rfl).trans (rni_l _ _)
        rw [formsU_succ]
        unfold addF
        by_cases hm : form3 b (i / (b.length * b.length)) (i / b.length % b.length) (i % b.length) ∈ formsU b i
        · rw [decide_eq_true hm] at hg
          rw [if_pos hm]
          exact stp (rn_if_n hg) rfl
        · rw [decide_eq_false hm] at hg
          rw [if_neg hm]
          refine stp (rn_if_t hg (stp ?_ rfl)) rfl
          unfold FV
          rw [List.map_append]
          refine rn_app rfl rfl rfl ?_
          rw [List.length_map]
          have := formsU_len b i
          exact Nat.le_trans (show (formsU b i).length + 1 ≤ 64 by omega) (by decide)) ⟨none, rfl⟩
  subst he
  refine stepB (rn_for (i := ((b.length * b.length * b.length : Nat) : Int)) (evn_mul (evn_mul (x := b.length) (y := b.length) rfl rfl (by omega)) rfl (by omega)) (smallI_nat (by omega)) h1) ?_
  refine ret_b (d := .lst ((formsOf b).map rD)) ?_ fun _ => rfl
  refine ev_bi (evs1 (x := D.lst ((formsOf b).map rD)) rfl) ?_
  show guardR (sortOk ((formsOf b).map rD) && tups1 ((formsOf b).map rD)) (R.ok (D.lst (((formsOf b).map rD).mergeSort (dataLe false toP)))) = _
  have ht : tups1 ((formsOf b).map rD) = true := by
    unfold tups1
    rw [Bool.or_eq_true]
    refine .inl (List.all_eq_true.mpr fun x hx => ?_)
    obtain ⟨a, ha, rfl⟩ := List.mem_map.mp hx
    have := (hb.f3 a ha).1
    match a, this with
    | p :: a, _ => rfl
  rw [guardR_t (by rw [sortOk_r, ht]; rfl)]
  rw [List.mergeSort_of_pairwise]
  rw [List.pairwise_map]
  refine hb.fs.imp fun {x y} h => ?_
  rw [dataLe_eq]
  show (!dataLt (toP (rD y)) (toP (rD x))) = true
  rw [show dataLt (toP (rD y)) (toP (rD x)) = ltR y x from ltD_r y x, h.2]; rfl
theorem c10 (h10 : B 10 = some f10) {k : Nat} : callF B fi sub fu (k+1) 10 [] = .ok (.lst (backs.map rD)) := by
  refine callF_run (f := f10) (ρ := [none]) h10 rfl rfl ?_
  kernel_rfl
/-! the law's book -/
abbrev AV (nm b : List Nat) (bs : List (List Nat)) (o : Option OD) : PD.Env := [sh (lD nm), sh (rD b), sh (.lst ((formsOf b).map rD)), some (.f (.ol (bs.map rD))), o]
theorem c14 (h10 : B 10 = some f10) (h11 : B 11 = some f11) (h12 : B 12 = some f12) (h13 : B 13 = some f13) (h14 : B 14 = some f14) {k : Nat} {nm : List Nat} (hl : nm.length = 30) :
    ∃ b bs, b ∈ backs ∧ List.Sublist bs (formsOf b) ∧ callF B fi sub fu (k+4) 14 [lD nm] = .ok (.tup [rD b, .tup (bs.map rD)]) := by
  have hnm : ∀ i, i < 30 → ∃ v, nm[i]? = some v := fun i hi => ⟨nm[i]'(by omega), List.getElem?_eq_getElem _⟩
  obtain ⟨v0, hv0⟩ := hnm 0 (by omega)
  have h17 : v0 % 17 < backs.length := Nat.mod_lt _ (by decide)
  obtain ⟨b, hbi⟩ : ∃ b, backs[v0 % 17]? = some b := ⟨_, List.getElem?_eq_getElem h17⟩
  have hbm : b ∈ backs := List.mem_of_getElem? hbi
  have hb := back_ok hbm
  obtain ⟨ρ', h1, bs, hs, he⟩ := loopN (f := fun x ρ => (bindT (.n 4) x ρ).bind fun ρ => rns (tb B fi sub fu (k+3)) (.cons (.ife (.cmp .eq (.bin .mod (.bin .fdiv (.idx (.var 0) (.bin .add (.cI 1) (.bin .mod (.var 4) (.bin .sub (.bi .len (.cons (.var 0) .nil)) (.cI 1))))) (.bin .add (.cI 1) (.bin .fdiv (.var 4) (.cI 7)))) (.cI 3)) (.cI 1)) (.cons (.app 3 (.idx (.var 2) (.var 4))) .nil) .nil) .nil) ρ)
    (formsOf b).length (fun i ρ => ∃ bs, List.Sublist bs ((formsOf b).take i) ∧ ρ = AV nm b bs (lvN none i)) (AV nm b [] none) (fun i ρ hi ⟨bs, hs, e⟩ => by
      subst e
      obtain ⟨v, hv⟩ := hnm (1 + i % 29) (by have := Nat.mod_lt i (show 0 < 29 by decide); omega)
      have hg : ev (tb B fi sub fu (k+3)) (.cmp .eq (.bin .mod (.bin .fdiv (.idx (.var 0) (.bin .add (.cI 1) (.bin .mod (.var 4) (.bin .sub (.bi .len (.cons (.var 0) .nil)) (.cI 1))))) (.bin .add (.cI 1) (.bin .fdiv (.var 4) (.cI 7)))) (.cI 3)) (.cI 1)) (AV nm b bs (sh (nD i))) = .ok (.bl (decide (v / (1 + i / 7) % 3 = 1))) := by
        refine evn_eq (x := v / (1 + i / 7) % 3) (y := 1) (evn_mod (y := 3) (evn_fdiv ?_ (evn_add (x := 1) rfl (evn_fdiv (x := i) (y := 7) rfl rfl (by omega) (by omega))) (by omega) ?_) rfl (by omega)) rfl
        · refine (ev_idx (y := nD (1 + i % 29)) rfl (evn_add (x := 1) rfl (evn_mod (x := i) (y := 29) rfl ?_ (by omega)))).trans (idx_ln hv)
          have := evn_sub (T := tb B fi sub fu (k+3)) (ρ := AV nm b bs (sh (nD i))) (e := .bi .len (.cons (.var 0) .nil)) (e' := .cI 1) (x := nm.length) (y := 1) (ev_bi (evs1 (x := lD nm) rfl) (len_ln nm)) rfl (by omega)
          rw [this, hl]
        · have := hb.fl
          omega
      have htk : (formsOf b).take (i + 1) = (formsOf b).take i ++ [(formsOf b)[i]] := (List.take_append_getElem hi).symm
      by_cases hc : v / (1 + i / 7) % 3 = 1
      · rw [decide_eq_true hc] at hg
        refine ⟨AV nm b (bs ++ [(formsOf b)[i]]) (sh (nD i)), bindO (x := AV nm b bs (sh (nD i))) rfl (stp (rn_if_t hg (stp ?_ rfl)) rfl), bs ++ [(formsOf b)[i]], ?_, rfl⟩
        · unfold AV
          rw [List.map_append]
          refine rn_app rfl ((ev_idx (x := .lst ((formsOf b).map rD)) (y := nD i) rfl rfl).trans (idx_l (by rw [List.getElem?_map, List.getElem?_eq_getElem hi]; rfl))) rfl ?_
          rw [List.length_map]
          have h1 := hs.length_le
          rw [List.length_take] at h1
          have := hb.fl
          exact Nat.le_trans (show bs.length + 1 ≤ 65 by omega) (by decide)
        · rw [htk]
          exact hs.append (List.Sublist.refl _)
      · rw [decide_eq_false hc] at hg
        refine ⟨AV nm b bs (sh (nD i)), bindO (x := AV nm b bs (sh (nD i))) rfl (stp (rn_if_n hg) rfl), bs, ?_, rfl⟩
        rw [htk]
        exact hs.trans (List.sublist_append_left _ _)) ⟨[], List.nil_sublist _, rfl⟩
  subst he
  rw [List.take_length] at hs
  refine ⟨b, bs, hbm, hs, ?_⟩
  refine callF_run (f := f14) (ρ := [sh (lD nm), none, none, none, none]) h14 rfl rfl ?_
  refine stepB (ρ' := [sh (lD nm), sh (rD b), none, none, none]) (rn_asg ((ev_idx (x := .lst (backs.map rD)) (y := nD (v0 % 17)) (cl (xs := []) rfl (c10 h10)) (evn_mod (y := 17) ((ev_idx (x := lD nm) (y := nD 0) rfl rfl).trans (idx_ln hv0)) rfl (by omega))).trans (idx_l (by rw [List.getElem?_map, hbi]; rfl))) rfl rfl rfl) ?_
  refine stepB (ρ' := [sh (lD nm), sh (rD b), sh (.lst ((formsOf b).map rD)), none, none]) (rn_asg (cl (xs := [rD b]) rfl (c13 h11 h12 h13 hb)) rfl rfl rfl) ?_
  refine stepB (ρ' := AV nm b [] none) rfl ?_
  refine stepB (rn_for (i := ((formsOf b).length : Nat)) (ev_bi (evs1 (x := .lst ((formsOf b).map rD)) rfl) (len_lr _)) (smallI_nat (by have := hb.fl; omega)) h1) ?_
  exact ret_b rfl fun _ => rfl
/-! the program's book -/
def letB (b : List Nat) (bs : List (List Nat)) (t : List Nat) : Bool := !decide (formR b t ∈ bs)
def letsL (b : List Nat) (bs : List (List Nat)) : List (D × D) := ((tris b.length).filter (letB b bs)).map fun t => (rD t, D.bl true)
def bookD (b : List Nat) (bs : List (List Nat)) : D := .obj 0 [rD b, .tup (bs.map rD), nD b.length, .dct true (letsL b bs), .non]
def formD (b : List Nat) : D → D
  | .tup [.int p, .int q, .int r] => rD (form3 b p.toNat q.toNat r.toNat)
  | _ => .non
theorem c9b (h2 : B 2 = some f2) (h3 : B 3 = some f3) (h4 : B 4 = some f4) (h5 : B 5 = some f5) (h6 : B 6 = some f6) (h7 : B 7 = some f7) (h8 : B 8 = some f8) (h9 : B 9 = some f9) (hfi : ∀ x, fi 0 x = idxS ["back", "barred", "kinds", "lets", "known_knit"] x) {k m : Nat} {b : List Nat} {bs : List (List Nat)} (hb : BackOk b) (hs : List.Sublist bs (formsOf b)) :
    callF B fi sub (m + 4) (k+5) 9 [rD b, .tup (bs.map rD)] = .ok (bookD b bs) := by
  have hfl := hb.fl
  have hsl := hs.length_le
  have hmem : ∀ t ∈ bs, t ∈ formsOf b := fun t ht => hs.subset ht
  have hn := hb.pos
  have hn4 := hb.le
  have hl : (b.map nD).length = b.length := List.length_map ..
  have h8' : callF B fi sub (m + 4) (k+4) 8 [.tup (b.map nD), .tup (bs.map rD)] = .ok (.bl true) := by
    refine c8 (k := k+3) h8 (by rw [List.length_map]; omega) (fun t ht => ?_) (fun t ht => ?_) (fun t ht => ?_) fun i hi => ?_
    · obtain ⟨a, ha, rfl⟩ := List.mem_map.mp ht
      obtain ⟨g1, g2, g3⟩ := hb.f3 a (hmem a ha)
      have := c6 (B := B) (fi := fi) (sub := sub) (fu := m + 4) (k := k) (n := b.length) (a := a) h3 h4 h6 (by omega) g2
      rw [g1] at this
      rw [hl]
      exact this
    · obtain ⟨a, ha, rfl⟩ := List.mem_map.mp ht
      obtain ⟨g1, g2, g3⟩ := hb.f3 a (hmem a ha)
      match a, g1, g2, g3 with
      | [p, q, r], g1, g2, g3 =>
        refine ⟨_, c7 h7 (g2 p (by simp)) (g2 q (by simp)) (g2 r (by simp)), ?_⟩
        refine (min1_r _ _).trans ?_
        exact congrArg (fun x => R.ok (rD x)) g3
    · obtain ⟨a, ha, rfl⟩ := List.mem_map.mp ht
      rw [req, decide_eq_true rfl]
    · rw [List.length_map] at hi
      refine ⟨rD (bs[i]'(by omega)), rD (bs[i + 1]'hi), by rw [List.getElem?_map, List.getElem?_eq_getElem (show i < bs.length by omega)]; rfl, by rw [List.getElem?_map, List.getElem?_eq_getElem hi]; rfl, ?_⟩
      rw [rlt, ((List.pairwise_iff_getElem.mp (hb.fs.sublist hs)) i (i + 1) (by omega) hi (by omega)).1]
  have h5' := c5 (B := B) (fi := fi) (sub := sub) (fu := m + 4) (k := k+1) h3 h4 h5 hn hn4 hb.bel hb.inv
  have h2' := c2 (B := B) (fi := fi) (sub := sub) (k := k+3) (m := m) (n := b.length) h2 (by omega)
  have key : ∀ t ∈ tris b.length, letK (formD b) (bs.map rD) (rD t) = letB b bs t := fun t ht => by
    obtain ⟨p, q, r, rfl, _⟩ := hb.tri t ht
    show (!((bs.map rD).any fun y => eqD y (rD (form3 b p q r)))) = _
    rw [any_r]; rfl
  have := c9 (B := B) (fi := fi) (sub := sub) (fu := m + 4) (k := k+4) (bb := b.map nD) (bs := bs.map rD) (rows := (tris b.length).map rD) (form := formD b) h9 hfi ?_ h5' h8' (by rw [hl]; exact h2') ?_ ?_ ?_ ?_
  · rw [this]
    unfold bookD
    rw [hl]
    have e : lets (formD b) (bs.map rD) ((tris b.length).map rD) = letsL b bs := by
      unfold lets letsL
      rw [List.filter_map, List.map_map]
      exact congrArg (List.map fun t => (rD t, D.bl true)) (List.filter_congr fun t ht => key t ht)
    rw [e]
  · rw [List.length_map]
    unfold tris
    rcases (show b.length = 1 ∨ b.length = 2 ∨ b.length = 3 ∨ b.length = 4 by omega) with h | h | h | h <;> rw [h] <;> decide
  · intro t ht
    obtain ⟨a, ha, rfl⟩ := List.mem_map.mp ht
    obtain ⟨p, q, r, rfl, hp, hq, hr, _⟩ := hb.tri a ha
    exact ⟨_, c7 h7 hp hq hr, min1_r _ _⟩
  · intro t ht
    obtain ⟨a, ha, rfl⟩ := List.mem_map.mp ht
    obtain ⟨p, q, r, rfl, hp, hq, hr, _⟩ := hb.tri a ha
    rw [key _ ha]
    exact rni_t _ _
  · intro t ht
    obtain ⟨a, ha, rfl⟩ := List.mem_map.mp ht
    refine ⟨?_, froz_r a⟩
    show (true && (a.map nD).all isAtom) = true
    rw [Bool.true_and, List.all_eq_true]
    intro x hx
    obtain ⟨y, _, rfl⟩ := List.mem_map.mp hx
    rfl
  · intro l x r e t ht
    have hnd : ((tris b.length).map rD).Nodup := hb.nd.map (f := rD) fun a c hac h => hac (by
      have := eqD_r a c
      rw [show rD a = rD c from h] at this
      rw [eqD_r, decide_eq_true rfl] at this
      exact (of_decide_eq_true this.symm))
    have hx : x ∈ (tris b.length).map rD := by rw [e]; exact List.mem_append_right _ List.mem_cons_self
    have ht' : t ∈ (tris b.length).map rD := by rw [e]; exact List.mem_append_left _ ht
    obtain ⟨a, ha, rfl⟩ := List.mem_map.mp hx
    obtain ⟨c, hc, rfl⟩ := List.mem_map.mp ht'
    rw [eqD_r]
    refine decide_eq_false fun h => ?_
    subst h
    rw [e] at hnd
    exact (List.nodup_append.mp hnd).2.2 _ ht _ List.mem_cons_self rfl
/-- what the book lets -/
theorem findK_r (l : List (List Nat)) (t : List Nat) : (findK (l.map fun t => (rD t, D.bl true)) (rD t)).isSome = decide (t ∈ l) := by
  unfold findK
  rw [Option.isSome_map]
  induction l with
  | nil => simp
  | cons x l ih =>
    rw [List.map_cons, List.find?_cons, show eqD (rD x, D.bl true).1 (rD t) = decide (x = t) from eqD_r x t]
    by_cases h : x = t
    · subst h
      rw [decide_eq_true rfl, decide_eq_true List.mem_cons_self]; rfl
    · rw [decide_eq_false h]
      show (List.find? _ _).isSome = _
      rw [ih]
      refine decide_eq_decide.mpr ?_
      rw [List.mem_cons]
      exact ⟨.inr, fun z => z.resolve_left fun e => h e.symm⟩
theorem in_lets {b : List Nat} {bs : List (List Nat)} {t : List Nat} (ht : t ∈ tris b.length) : cmpD .isin (rD t) (.dct true (letsL b bs)) = .ok (.bl (letB b bs t)) := by
  have hk : keyOk true (rD t) = true := by
    show (true && (t.map nD).all isAtom) = true
    rw [Bool.true_and, List.all_eq_true]
    intro x hx
    obtain ⟨y, _, rfl⟩ := List.mem_map.mp hx
    rfl
  rw [cmpD, guardR_t hk]
  unfold letsL
  rw [findK_r]
  congr 2
  rw [← Bool.decide_coe (letB b bs t)]
  exact decide_eq_decide.mpr ⟨fun h => (List.mem_filter.mp h).2, fun h => List.mem_filter.mpr ⟨ht, h⟩⟩
end PD.Core
end

section
set_option Elab.async false
set_option linter.all false
set_option maxRecDepth 100000
/-! PD, part 26: what comes of bonds one behind the other. -/
namespace PD.Core
open PySem PD PySem.W
-- all_kinds ['book']
def b17 : Sts := (.cons (.ret (.tR (.r1 (.fld (.var 0) "kinds")))) .nil)
def f17 : FnI := ⟨1, 1, none, b17, none⟩
-- bonds_after ['book', 'p', 'q']
def b18 : Sts := (.cons (.asg (.n 3) (.fld (.var 0) "kinds")) (.cons (.ife (.cmp .eq (.var 1) (.var 3)) (.cons (.ret (.lst (.cons (.var 2) .nil))) .nil) .nil) (.cons (.ife (.cmp .eq (.var 2) (.var 3)) (.cons (.ret (.lst (.cons (.var 1) .nil))) .nil) .nil) (.cons (.asg (.n 4) (.lc [5] (.n 5) (.e (.call 17 (.cons (.var 0) .nil))) (.cons (.cmp .isin (.tup (.cons (.var 1) (.cons (.var 2) (.cons (.var 5) .nil)))) (.fld (.var 0) "lets")) .nil) (.var 5))) (.cons (.ret (.ite (.cmp .eq (.var 2) (.idx (.fld (.var 0) "back") (.var 1))) (.bin .add (.var 4) (.lst (.cons (.var 3) .nil))) (.var 4))) .nil)))))
def f18 : FnI := ⟨3, 6, none, b18, none⟩
-- bonds_table ['book']
def b19 : Sts := (.cons (.asg (.n 1) (.lR (.r1 (.bin .add (.fld (.var 0) "kinds") (.cI 1))))) (.cons (.ret (.bi .tupleOf (.cons (.lc [2] (.n 2) (.e (.var 1)) .nil (.bi .tupleOf (.cons (.lc [3] (.n 3) (.e (.var 1)) .nil (.bi .tupleOf (.cons (.call 18 (.cons (.var 0) (.cons (.var 2) (.cons (.var 3) .nil)))) .nil))) .nil))) .nil))) .nil))
def f19 : FnI := ⟨1, 4, none, b19, none⟩
-- after ['book', 'p', 'q']
def b20 (e : Nat) : Sts := (.cons (.fr (.n 3) (.e (.tup (.cons (.var 1) (.cons (.var 2) .nil)))) (.cons (.ife (.not (.call 4 (.cons (.var 3) (.cons (.bin .add (.fld (.var 0) "kinds") (.cI 1)) .nil)))) (.cons (.rse e .nil) .nil) .nil) .nil)) (.cons (.ret (.bi .tupleOf (.cons (.call 18 (.cons (.var 0) (.cons (.var 1) (.cons (.var 2) .nil)))) .nil))) .nil))
def f20 (e : Nat) : FnI := ⟨3, 4, none, b20 e, none⟩
-- _law_after ['back', 'barred', 'p', 'q']
def b21 : Sts := (.cons (.asg (.n 4) (.bi .len (.cons (.var 0) .nil))) (.cons (.ife (.cmp .eq (.var 2) (.var 4)) (.cons (.ret (.lst (.cons (.var 3) .nil))) .nil) .nil) (.cons (.ife (.cmp .eq (.var 3) (.var 4)) (.cons (.ret (.lst (.cons (.var 2) .nil))) .nil) .nil) (.cons (.asg (.n 5) (.lc [6] (.n 6) (.r1 (.var 4)) (.cons (.call 16 (.cons (.var 0) (.cons (.var 1) (.cons (.var 2) (.cons (.var 3) (.cons (.var 6) .nil)))))) .nil) (.var 6))) (.cons (.ife (.cmp .eq (.idx (.var 0) (.var 2)) (.var 3)) (.cons (.app 5 (.var 4)) .nil) .nil) (.cons (.ret (.var 5)) .nil))))))
def f21 : FnI := ⟨4, 7, none, b21, none⟩
-- _law_is_row ['thing', 'many', 'bound']
def b22 : Sts := (.cons (.ife (.or (.not (.isi (.var 0) .tuple)) (.cmp .ne (.bi .len (.cons (.var 0) .nil)) (.var 1))) (.cons (.ret (.cB false)) .nil) .nil) (.cons (.fr (.n 3) (.e (.var 0)) (.cons (.ife (.or (.not (.call 15 (.cons (.var 3) .nil))) (.or (.cmp .lt (.var 3) (.cI 0)) (.cmp .ge (.var 3) (.var 2)))) (.cons (.ret (.cB false)) .nil) .nil) .nil)) (.cons (.ret (.cB true)) .nil)))
def f22 : FnI := ⟨3, 4, none, b22, none⟩
variable {B : Nat → Option FnI} {fi : Nat → Str → Option Nat} {sub : Nat → Nat → Bool} {fu : Nat}
abbrev BkFi (fi : Nat → Str → Option Nat) : Prop := ∀ x, fi 0 x = idxS ["back", "barred", "kinds", "lets", "known_knit"] x
section
variable {k : Nat} {ρ : PD.Env} {e : Ex} {b : List Nat} {bs : List (List Nat)}
theorem fld_kinds (hf : BkFi fi) (he : ev (tb B fi sub fu k) e ρ = .ok (bookD b bs)) : ev (tb B fi sub fu k) (.fld e "kinds") ρ = .ok (nD b.length) :=
  bindO he (by show (R.ofO (fi 0 "kinds")).bind _ = _; rw [hf]; rfl)
theorem fld_back (hf : BkFi fi) (he : ev (tb B fi sub fu k) e ρ = .ok (bookD b bs)) : ev (tb B fi sub fu k) (.fld e "back") ρ = .ok (rD b) :=
  bindO he (by show (R.ofO (fi 0 "back")).bind _ = _; rw [hf]; rfl)
theorem fld_barred (hf : BkFi fi) (he : ev (tb B fi sub fu k) e ρ = .ok (bookD b bs)) : ev (tb B fi sub fu k) (.fld e "barred") ρ = .ok (.tup (bs.map rD)) :=
  bindO he (by show (R.ofO (fi 0 "barred")).bind _ = _; rw [hf]; rfl)
theorem fld_lets (hf : BkFi fi) (he : ev (tb B fi sub fu k) e ρ = .ok (bookD b bs)) : ev (tb B fi sub fu k) (.fld e "lets") ρ = .ok (.dct true (letsL b bs)) :=
  bindO he (by show (R.ofO (fi 0 "lets")).bind _ = _; rw [hf]; rfl)
end
theorem loopF_c {f : D → PD.Env → R Fl} {x : D} {xs : List D} {ρ ρ1 : PD.Env} {w : R Fl} (h : f x ρ = .ok (.nx ρ1)) (h2 : loopF f xs ρ1 = w) : loopF f (x :: xs) ρ = w := bindO h h2
theorem loopF_rt {f : D → PD.Env → R Fl} {x d : D} {xs : List D} {ρ ρ1 : PD.Env} (h : f x ρ = .ok (.rt d ρ1)) : loopF f (x :: xs) ρ = .ok (.rt d ρ1) := bindO h rfl
theorem loopF_x {f : D → PD.Env → R Fl} {x : D} {xs : List D} {ρ : PD.Env} {w : Xc} (h : f x ρ = .exc w) : loopF f (x :: xs) ρ = .exc w := bindX h
theorem rn_fr {T : Tab} {g : Tg} {it : It} {bd : Sts} {ρ : PD.Env} {xs : List D} {w : R Fl} (hi : evIt T it ρ = .ok xs) (hu : unown ρ (rootsI it) = ρ) (h : loopF (fun x ρ => (bindT g x ρ).bind fun ρ => rns T bd ρ) xs ρ = w) : rn T (.fr g it bd) ρ = w := by
  refine bindO hi ?_
  rw [hu]; exact h
theorem rn_asl {T : Tab} {e : Ex} {ρ : PD.Env} {i : Nat} {ds : List D} (he : ev T e ρ = .ok (.lst ds)) (hu : unown ρ (roots e) = ρ) (hf : frs e = true) (hi : decide (i < ρ.length) = true) : rn T (.asg (.n i) e) ρ = .ok (.nx (ρ.set i (some (.f (.ol ds))))) := by
  refine bindO he ?_
  rw [keepN_id hu, hf]
  exact guardR_t hi
theorem ev_ite_t {T : Tab} {c a b : Ex} {ρ : PD.Env} {r : R D} (h : ev T c ρ = .ok (.bl true)) (h2 : ev T a ρ = r) : ev T (.ite c a b) ρ = r := bindO h h2
theorem ev_ite_f {T : Tab} {c a b : Ex} {ρ : PD.Env} {r : R D} (h : ev T c ρ = .ok (.bl false)) (h2 : ev T b ρ = r) : ev T (.ite c a b) ρ = r := bindO h h2
theorem len_map_n (a : List Nat) : (a.map nD).length = a.length := List.length_map ..
/-- range(n) -/
theorem evIt_n {T : Tab} {ρ : PD.Env} {a : Ex} {n : Nat} (h : ev T a ρ = .ok (nD n)) (hn : n ≤ 100000) : evIt T (.r1 a) ρ = .ok ((List.range n).map nD) := by
  rw [evIt_r1 (j := (n : Int)) h (smallI_nat hn), show ((n : Int)).toNat = n from rfl, ints_r]
theorem line_of {n : Nat} (h : n ≤ 100000) : n ≤ line := Nat.le_trans h (by decide)
theorem c17 (hf : BkFi fi) (h17 : B 17 = some f17) {k : Nat} {b : List Nat} {bs : List (List Nat)} (hb : BackOk b) : callF B fi sub fu (k+1) 17 [bookD b bs] = .ok (rD (List.range b.length)) := by
  refine callF_run (f := f17) (ρ := [sh (bookD b bs)]) h17 rfl rfl ?_
  refine ret_b (d := rD (List.range b.length)) ?_ fun _ => rfl
  have := hb.le
  refine bindO (evIt_n (fld_kinds hf rfl) (by omega)) (guardR_t (decide_eq_true ?_))
  rw [List.length_map, List.length_range]
  exact line_of (by omega)
/-- what comes of two bonds -/
def aft (b : List Nat) (bs : List (List Nat)) (p q : Nat) : List Nat := if p = b.length then [q] else if q = b.length then [p] else (List.range b.length).filter (fun r => letB b bs [p, q, r]) ++ (if q = bk b p then [b.length] else [])
theorem aft_le {b : List Nat} {bs : List (List Nat)} {p q : Nat} (hp : p ≤ b.length) (hq : q ≤ b.length) : ∀ r ∈ aft b bs p q, r < b.length + 1 := by
  intro r hr
  unfold aft at hr
  split at hr
  · rw [List.mem_singleton] at hr; omega
  · split at hr
    · rw [List.mem_singleton] at hr; omega
    · rcases List.mem_append.mp hr with hr | hr
      · have := List.mem_range.mp (List.mem_filter.mp hr).1; omega
      · split at hr
        · rw [List.mem_singleton] at hr; omega
        · cases hr
theorem aft_len (b : List Nat) (bs : List (List Nat)) (p q : Nat) : (aft b bs p q).length ≤ b.length + 1 := by
  unfold aft
  split
  · exact Nat.succ_le_succ (Nat.zero_le _)
  · split
    · exact Nat.succ_le_succ (Nat.zero_le _)
    · rw [List.length_append]
      have h1 := List.length_filter_le (fun r => letB b bs [p, q, r]) (List.range b.length)
      rw [List.length_range] at h1
      split
      · show _ + 1 ≤ _; omega
      · show _ + 0 ≤ _; omega
abbrev BV (b : List Nat) (bs : List (List Nat)) (p q : Nat) (o4 o5 : Option OD) : PD.Env := [sh (bookD b bs), sh (nD p), sh (nD q), sh (nD b.length), o4, o5]
theorem binD_addl (a b : List Nat) (h : a.length + b.length ≤ 100000) : binD .add (lD a) (lD b) = .ok (lD (a ++ b)) := by
  show guardR (decide ((a.map nD).length + (b.map nD).length ≤ line)) (.ok (D.lst (a.map nD ++ b.map nD))) = _
  rw [guardR_t (decide_eq_true (by rw [List.length_map, List.length_map]; exact line_of h)), ← List.map_append]
theorem filter_nD (p : Nat → Bool) (P : D → Bool) (h : ∀ x, P (nD x) = p x) : ∀ l : List Nat, (l.map nD).filter P = (l.filter p).map nD
  | [] => rfl
  | x :: l => by
    rw [List.map_cons, List.filter_cons, List.filter_cons, h x, filter_nD p P h l]
    cases p x <;> rfl
def nat0 : D → Nat
  | .int i => i.toNat
  | _ => 0
theorem nat0_n (x : Nat) : nat0 (nD x) = x := rfl
theorem c18 (hf : BkFi fi) (h17 : B 17 = some f17) (h18 : B 18 = some f18) {k : Nat} {b : List Nat} {bs : List (List Nat)} {p q : Nat} (hb : BackOk b) (hp : p ≤ b.length) (hq : q ≤ b.length) :
    callF B fi sub fu (k+2) 18 [bookD b bs, nD p, nD q] = .ok (lD (aft b bs p q)) := by
  have hle := hb.le
  refine callF_run (f := f18) (ρ := [sh (bookD b bs), sh (nD p), sh (nD q), none, none, none]) h18 rfl rfl ?_
  refine stepB (ρ' := BV b bs p q none none) (rn_asg (fld_kinds hf rfl) rfl rfl rfl) ?_
  by_cases h1 : p = b.length
  · refine (bindO (x := .rt (lD [q]) (BV b bs p q none none)) (bindO (x := .rt (lD [q]) (BV b bs p q none none)) (rn_if_t ((evn_eq rfl rfl).trans (by rw [decide_eq_true h1])) ?_) rfl) ?_)
    · rfl
    · unfold aft; rw [if_pos h1]; rfl
  · refine stepB (rn_if_n ((evn_eq (x := p) (y := b.length) rfl rfl).trans (by rw [decide_eq_false h1]))) ?_
    by_cases h2 : q = b.length
    · refine (bindO (x := .rt (lD [p]) (BV b bs p q none none)) (bindO (x := .rt (lD [p]) (BV b bs p q none none)) (rn_if_t ((evn_eq rfl rfl).trans (by rw [decide_eq_true h2])) ?_) rfl) ?_)
      · rfl
      · unfold aft; rw [if_neg h1, if_pos h2]; rfl
    · refine stepB (rn_if_n ((evn_eq (x := q) (y := b.length) rfl rfl).trans (by rw [decide_eq_false h2]))) ?_
      have hl := ev_lcf (T := tb B fi sub fu (k+1)) (ρ := BV b bs p q none none) (own := [5]) (g := .n 5) (it := .e (.call 17 (.cons (.var 0) .nil))) (c := .cmp .isin (.tup (.cons (.var 1) (.cons (.var 2) (.cons (.var 5) .nil)))) (.fld (.var 0) "lets")) (e := .var 5)
        (xs := (List.range b.length).map nD) (F := fun x => x) (p := fun x => letB b bs [p, q, nat0 x]) (evIt_e (cl (xs := [bookD b bs]) rfl (c17 hf h17 hb)) rfl) (by rw [List.length_map, List.length_range]; exact line_of (by omega)) fun x hx => by
          obtain ⟨r, hr, rfl⟩ := List.mem_map.mp hx
          have hr := List.mem_range.mp hr
          refine ⟨BV b bs p q none (sh (nD r)), rfl, ?_, fun _ => rfl⟩
          exact (ev_cmp (ev_t3 (x := p) (y := q) (z := r) rfl rfl rfl) (fld_lets hf rfl)).trans (in_lets (mem_tris (by omega) (by omega) hr))
      rw [List.map_id', filter_nD (fun r => letB b bs [p, q, r]) _ fun x => rfl] at hl
      refine stepB (ρ' := BV b bs p q (some (.f (.ol (((List.range b.length).filter fun r => letB b bs [p, q, r]).map nD)))) none) (rn_asl hl rfl rfl rfl) ?_
      · refine ret_b (d := lD (aft b bs p q)) ?_ fun _ => rfl
        unfold aft
        rw [if_neg h1, if_neg h2]
        have hc := (evn_eq (T := tb B fi sub fu (k+1)) (ρ := BV b bs p q (some (.f (.ol (((List.range b.length).filter fun r => letB b bs [p, q, r]).map nD)))) none) (e := .var 2) (e' := .idx (.fld (.var 0) "back") (.var 1)) (x := q) (y := bk b p) rfl ((ev_idx (fld_back hf rfl) rfl).trans (bk_idx (by omega))))
        by_cases h3 : q = bk b p
        · rw [decide_eq_true h3] at hc
          rw [if_pos h3]
          refine ev_ite_t hc ?_
          refine Eq.trans (b := binD .add (lD ((List.range b.length).filter fun r => letB b bs [p, q, r])) (lD [b.length])) (ev_bin rfl (ev_l1 rfl)) (binD_addl _ _ ?_)
          have := List.length_filter_le (fun r => letB b bs [p, q, r]) (List.range b.length)
          rw [List.length_range] at this
          show _ + 1 ≤ _
          omega
        · rw [decide_eq_false h3] at hc
          rw [if_neg h3, List.append_nil]
          exact ev_ite_f hc rfl
/-- the law's own -/
abbrev LV (b : List Nat) (bs : List (List Nat)) (p q : Nat) (o5 o6 : Option OD) : PD.Env := [sh (rD b), sh (.tup (bs.map rD)), sh (nD p), sh (nD q), sh (nD b.length), o5, o6]
theorem c21 (h11 : B 11 = some f11) (h12 : B 12 = some f12) (h16 : B 16 = some f16) (h21 : B 21 = some f21) {k : Nat} {b : List Nat} {bs : List (List Nat)} {p q : Nat} (hb : BackOk b) (hp : p ≤ b.length) (hq : q ≤ b.length) :
    callF B fi sub fu (k+4) 21 [rD b, .tup (bs.map rD), nD p, nD q] = .ok (lD (aft b bs p q)) := by
  have hle := hb.le
  refine callF_run (f := f21) (ρ := [sh (rD b), sh (.tup (bs.map rD)), sh (nD p), sh (nD q), none, none, none]) h21 rfl rfl ?_
  refine stepB (ρ' := LV b bs p q none none) (rn_asg (ev_bi (evs1 (x := rD b) rfl) (len_r b)) rfl rfl rfl) ?_
  by_cases h1 : p = b.length
  · refine (bindO (x := .rt (lD [q]) (LV b bs p q none none)) (bindO (x := .rt (lD [q]) (LV b bs p q none none)) (rn_if_t ((evn_eq rfl rfl).trans (by rw [decide_eq_true h1])) ?_) rfl) ?_)
    · rfl
    · unfold aft; rw [if_pos h1]; rfl
  · refine stepB (rn_if_n ((evn_eq (x := p) (y := b.length) rfl rfl).trans (by rw [decide_eq_false h1]))) ?_
    by_cases h2 : q = b.length
    · refine (bindO (x := .rt (lD [p]) (LV b bs p q none none)) (bindO (x := .rt (lD [p]) (LV b bs p q none none)) (rn_if_t ((evn_eq rfl rfl).trans (by rw [decide_eq_true h2])) ?_) rfl) ?_)
      · rfl
      · unfold aft; rw [if_neg h1, if_pos h2]; rfl
    · refine stepB (rn_if_n ((evn_eq (x := q) (y := b.length) rfl rfl).trans (by rw [decide_eq_false h2]))) ?_
      have hl := ev_lcf (T := tb B fi sub fu (k+3)) (ρ := LV b bs p q none none) (own := [6]) (g := .n 6) (it := .r1 (.var 4)) (c := .call 16 (.cons (.var 0) (.cons (.var 1) (.cons (.var 2) (.cons (.var 3) (.cons (.var 6) .nil)))))) (e := .var 6)
        (xs := (List.range b.length).map nD) (F := fun x => x) (p := fun x => letB b bs [p, q, nat0 x]) (evIt_n (n := b.length) rfl (by omega)) (by rw [List.length_map, List.length_range]; exact line_of (by omega)) fun x hx => by
          obtain ⟨r, hr, rfl⟩ := List.mem_map.mp hx
          have hr := List.mem_range.mp hr
          refine ⟨LV b bs p q none (sh (nD r)), rfl, ?_, fun _ => rfl⟩
          exact cl (xs := [rD b, .tup (bs.map rD), nD p, nD q, nD r]) rfl (c16 h11 h12 h16 (by omega) (by omega) hr)
      rw [List.map_id', filter_nD (fun r => letB b bs [p, q, r]) _ fun x => rfl] at hl
      refine stepB (ρ' := LV b bs p q (some (.f (.ol (((List.range b.length).filter fun r => letB b bs [p, q, r]).map nD)))) none) (rn_asl hl rfl rfl rfl) ?_
      · unfold aft
        rw [if_neg h1, if_neg h2]
        have hc := (evn_eq (T := tb B fi sub fu (k+3)) (ρ := LV b bs p q (some (.f (.ol (((List.range b.length).filter fun r => letB b bs [p, q, r]).map nD)))) none) (e := .idx (.var 0) (.var 2)) (e' := .var 3) (x := bk b p) (y := q) ((ev_idx rfl rfl).trans (bk_idx (by omega))) rfl)
        by_cases h3 : q = bk b p
        · rw [decide_eq_true h3.symm] at hc
          rw [if_pos h3]
          refine stepB (rn_if_t hc (stp (rn_app rfl (x := nD b.length) rfl rfl ?_) rfl)) ?_
          · have := List.length_filter_le (fun r => letB b bs [p, q, r]) (List.range b.length)
            rw [List.length_range] at this
            rw [List.length_map]
            exact line_of (by omega)
          · refine ret_b (d := _) rfl fun _ => ?_
            show R.ok (D.lst (_ ++ [nD b.length])) = R.ok (D.lst ((_ ++ [b.length]).map nD))
            rw [List.map_append]; rfl
        · rw [decide_eq_false fun h => h3 h.symm] at hc
          rw [if_neg h3, List.append_nil]
          refine stepB (rn_if_n hc) ?_
          exact ret_b rfl fun _ => rfl
theorem c20 {er : Nat} (hf : BkFi fi) (h3 : B 3 = some f3) (h4 : B 4 = some f4) (h17 : B 17 = some f17) (h18 : B 18 = some f18) (h20 : B 20 = some (f20 er)) {k : Nat} {b : List Nat} {bs : List (List Nat)} {p q : Nat} (hb : BackOk b) (hp : p ≤ b.length) (hq : q ≤ b.length) :
    callF B fi sub fu (k+3) 20 [bookD b bs, nD p, nD q] = .ok (rD (aft b bs p q)) := by
  refine callF_run (f := f20 er) (ρ := [sh (bookD b bs), sh (nD p), sh (nD q), none]) h20 rfl rfl ?_
  have g : ∀ x, x ≤ b.length → rns (tb B fi sub fu (k+2)) (.cons (.ife (.not (.call 4 (.cons (.var 3) (.cons (.bin .add (.fld (.var 0) "kinds") (.cI 1)) .nil)))) (.cons (.rse er .nil) .nil) .nil) .nil) [sh (bookD b bs), sh (nD p), sh (nD q), sh (nD x)] = .ok (.nx [sh (bookD b bs), sh (nD p), sh (nD q), sh (nD x)]) := fun x hx => by
    refine stp (rn_if_n (evNot (k := true) (cl (xs := [nD x, nD (b.length + 1)]) (evsC rfl (evs1 (evn_add (y := 1) (fld_kinds hf rfl) rfl))) ((c4 h3 h4).trans (by rw [decide_eq_true (by omega)]))))) rfl
  refine stepB (ρ' := [sh (bookD b bs), sh (nD p), sh (nD q), sh (nD q)]) ?_ ?_
  · refine rn_fr (xs := [nD p, nD q]) rfl rfl ?_
    refine loopF_c (ρ1 := [sh (bookD b bs), sh (nD p), sh (nD q), sh (nD p)]) (bindO (x := [sh (bookD b bs), sh (nD p), sh (nD q), sh (nD p)]) rfl (g p hp)) ?_
    exact loopF_c (ρ1 := [sh (bookD b bs), sh (nD p), sh (nD q), sh (nD q)]) (bindO (x := [sh (bookD b bs), sh (nD p), sh (nD q), sh (nD q)]) rfl (g q hq)) rfl
  · refine ret_b (d := rD (aft b bs p q)) (ev_bi (evs1 (x := lD (aft b bs p q)) (cl (xs := [bookD b bs, nD p, nD q]) rfl (c18 hf h17 h18 hb hp hq))) rfl) fun _ => rfl
def tableD (b : List Nat) (bs : List (List Nat)) : D := .tup ((List.range (b.length + 1)).map fun p => .tup ((List.range (b.length + 1)).map fun q => rD (aft b bs p q)))
theorem c19 (hf : BkFi fi) (h17 : B 17 = some f17) (h18 : B 18 = some f18) (h19 : B 19 = some f19) {k : Nat} {b : List Nat} {bs : List (List Nat)} (hb : BackOk b) : callF B fi sub fu (k+3) 19 [bookD b bs] = .ok (tableD b bs) := by
  have hle := hb.le
  refine callF_run (f := f19) (ρ := [sh (bookD b bs), none, none, none]) h19 rfl rfl ?_
  refine stepB (ρ' := [sh (bookD b bs), some (.f (.ol ((List.range (b.length + 1)).map nD))), none, none]) ?_ ?_
  · refine bindO (x := lD (List.range (b.length + 1))) (bindO (evIt_n (evn_add (y := 1) (fld_kinds hf rfl) rfl) (by omega)) (guardR_t (decide_eq_true ?_))) ?_
    · rw [List.length_map, List.length_range]
      exact line_of (by omega)
    · rw [keepN_id rfl]; rfl
  have e1 : ∀ p, p ≤ b.length → ev (tb B fi sub fu (k+2)) (.bi .tupleOf (.cons (.lc [3] (.n 3) (.e (.var 1)) .nil (.bi .tupleOf (.cons (.call 18 (.cons (.var 0) (.cons (.var 2) (.cons (.var 3) .nil)))) .nil))) .nil)) [sh (bookD b bs), sh (lD (List.range (b.length + 1))), sh (nD p), none] = .ok (.tup ((List.range (b.length + 1)).map fun q => rD (aft b bs p q))) := fun p hp => by
    refine ev_bi (evs1 (x := D.lst ((List.range (b.length + 1)).map fun q => rD (aft b bs p q))) ?_) rfl
    have := ev_lc (T := tb B fi sub fu (k+2)) (ρ := [sh (bookD b bs), sh (lD (List.range (b.length + 1))), sh (nD p), none]) (own := [3]) (g := .n 3) (it := .e (.var 1)) (e := .bi .tupleOf (.cons (.call 18 (.cons (.var 0) (.cons (.var 2) (.cons (.var 3) .nil)))) .nil))
      (xs := (List.range (b.length + 1)).map nD) (F := fun x => rD (aft b bs p (nat0 x))) rfl (by rw [List.length_map, List.length_range]; exact line_of (by omega)) fun x hx => by
        obtain ⟨q, hq, rfl⟩ := List.mem_map.mp hx
        have hq := List.mem_range.mp hq
        refine ⟨[sh (bookD b bs), sh (lD (List.range (b.length + 1))), sh (nD p), sh (nD q)], rfl, ?_⟩
        exact ev_bi (evs1 (x := lD (aft b bs p q)) (cl (xs := [bookD b bs, nD p, nD q]) rfl (c18 hf h17 h18 hb hp (by omega)))) rfl
    rw [List.map_map] at this
    exact this
  refine ret_b (d := tableD b bs) ?_ fun _ => rfl
  refine ev_bi (evs1 (x := D.lst ((List.range (b.length + 1)).map fun p => .tup ((List.range (b.length + 1)).map fun q => rD (aft b bs p q)))) ?_) rfl
  have := ev_lc (T := tb B fi sub fu (k+2)) (ρ := [sh (bookD b bs), some (.f (.ol ((List.range (b.length + 1)).map nD))), none, none]) (own := [2]) (g := .n 2) (it := .e (.var 1)) (e := .bi .tupleOf (.cons (.lc [3] (.n 3) (.e (.var 1)) .nil (.bi .tupleOf (.cons (.call 18 (.cons (.var 0) (.cons (.var 2) (.cons (.var 3) .nil)))) .nil))) .nil))
    (xs := (List.range (b.length + 1)).map nD) (F := fun x => .tup ((List.range (b.length + 1)).map fun q => rD (aft b bs (nat0 x) q))) rfl (by rw [List.length_map, List.length_range]; exact line_of (by omega)) fun x hx => by
      obtain ⟨p, hp, rfl⟩ := List.mem_map.mp hx
      have hp := List.mem_range.mp hp
      exact ⟨[sh (bookD b bs), sh (lD (List.range (b.length + 1))), sh (nD p), none], rfl, e1 p (by omega)⟩
  rw [List.map_map] at this
  exact this
theorem bl_ne (x y : Bool) : cmpD .ne (.bl x) (.bl y) = .ok (.bl (x != y)) := by cases x <;> cases y <;> rfl
theorem c15 (h15 : B 15 = some f15) {k x : Nat} : callF B fi sub fu (k+1) 15 [nD x] = .ok (.bl true) := by
  refine callF_run (f := f15) (ρ := [sh (nD x)]) h15 rfl rfl ?_
  exact ret_b (d := .bl true) rfl fun _ => rfl
/-- a row by the law -/
theorem c22 (h15 : B 15 = some f15) (h22 : B 22 = some f22) {k n : Nat} {a : List Nat} (hb : ∀ x ∈ a, x < n) : callF B fi sub fu (k+2) 22 [rD a, nD a.length, nD n] = .ok (.bl true) := by
  refine callF_run (f := f22) (ρ := [sh (rD a), sh (nD a.length), sh (nD n), none]) h22 rfl rfl ?_
  refine stepB (rn_if_n (ev_or_f (evNot (k := true) rfl) ((ev_cmp (x := nD a.length) (y := nD a.length) (ev_bi (evs1 (x := rD a) rfl) (len_r a)) rfl).trans ((ne_i _ _).trans (by rw [decide_eq_true rfl]; rfl))))) ?_
  have hl : ∀ (l : List Nat) (o : Option OD), (∀ x ∈ l, x < n) → ∃ o', loopF (fun x ρ => (bindT (.n 3) x ρ).bind fun ρ => rns (tb B fi sub fu (k+1)) (.cons (.ife (.or (.not (.call 15 (.cons (.var 3) .nil))) (.or (.cmp .lt (.var 3) (.cI 0)) (.cmp .ge (.var 3) (.var 2)))) (.cons (.ret (.cB false)) .nil) .nil) .nil) ρ) (l.map nD) [sh (rD a), sh (nD a.length), sh (nD n), o] = .ok (.nx [sh (rD a), sh (nD a.length), sh (nD n), o']) := fun l => by
    induction l with
    | nil => intro o _; exact ⟨o, rfl⟩
    | cons x l ih =>
      intro o hx
      obtain ⟨o', h⟩ := ih (sh (nD x)) fun y hy => hx y (List.mem_cons_of_mem _ hy)
      refine ⟨o', loopF_c (ρ1 := [sh (rD a), sh (nD a.length), sh (nD n), sh (nD x)]) (bindO (x := [sh (rD a), sh (nD a.length), sh (nD n), sh (nD x)]) rfl (stp (rn_if_n ?_) rfl)) h⟩
      have hx := hx x List.mem_cons_self
      refine ev_or_f (evNot (k := true) (cl (xs := [nD x]) rfl (c15 h15))) (ev_or_f ?_ ?_)
      · exact (ev_lt (i := (x : Int)) (j := 0) rfl rfl).trans (by rw [decide_eq_false (by omega)])
      · exact (ev_ge (i := (x : Int)) (j := (n : Int)) rfl rfl).trans (by rw [decide_eq_true (by omega)]; rfl)
  obtain ⟨o', h⟩ := hl a none hb
  refine stepB (ρ' := [sh (rD a), sh (nD a.length), sh (nD n), o']) (rn_fr (xs := a.map nD) rfl rfl h) ?_
  exact ret_b (d := .bl true) rfl fun _ => rfl
end PD.Core
end

section
set_option Elab.async false
set_option linter.all false
set_option maxRecDepth 100000
/-! PD, part 27: companies: the functions. -/
namespace PD.Core
open PySem PD
-- _law_known ['number']
def b23 : Sts := (.cons (.asg (.n 1) (.lst (.cons (.tup (.cons (.tup (.cons (.cI 1) (.cons (.cI 0) .nil))) (.cons (.tup (.cons (.tup (.cons (.cI 0) (.cons (.cI 0) (.cons (.cI 1) .nil)))) .nil)) .nil))) (.cons (.tup (.cons (.tup (.cons (.cI 0) (.cons (.cI 1) .nil))) (.cons (.tup (.cons (.tup (.cons (.cI 0) (.cons (.cI 0) (.cons (.cI 1) .nil)))) .nil)) .nil))) (.cons (.tup (.cons (.tup (.cons (.cI 0) (.cons (.cI 1) .nil))) (.cons (.tup (.cons (.tup (.cons (.cI 0) (.cons (.cI 0) (.cons (.cI 0) .nil)))) (.cons (.tup (.cons (.cI 0) (.cons (.cI 0) (.cons (.cI 1) .nil)))) .nil))) .nil))) (.cons (.tup (.cons (.tup (.cons (.cI 0) .nil)) (.cons (.tup (.cons (.tup (.cons (.cI 0) (.cons (.cI 0) (.cons (.cI 0) .nil)))) .nil)) .nil))) .nil)))))) (.cons (.asg (.n 1) (.bin .add (.var 1) (.lst (.cons (.tup (.cons (.tup (.cons (.cI 0) (.cons (.cI 1) .nil))) (.cons (.tup (.cons (.tup (.cons (.cI 0) (.cons (.cI 0) (.cons (.cI 1) .nil)))) (.cons (.tup (.cons (.cI 1) (.cons (.cI 1) (.cons (.cI 1) .nil)))) .nil))) .nil))) (.cons (.tup (.cons (.tup (.cons (.cI 0) (.cons (.cI 1) .nil))) (.cons (.tup (.cons (.tup (.cons (.cI 0) (.cons (.cI 0) (.cons (.cI 0) .nil)))) (.cons (.tup (.cons (.cI 0) (.cons (.cI 0) (.cons (.cI 1) .nil)))) (.cons (.tup (.cons (.cI 1) (.cons (.cI 1) (.cons (.cI 1) .nil)))) .nil)))) .nil))) .nil))))) (.cons (.asg (.n 1) (.bin .add (.var 1) (.lst (.cons (.tup (.cons (.tup (.cons (.cI 0) (.cons (.cI 1) .nil))) (.cons (.tup (.cons (.tup (.cons (.cI 0) (.cons (.cI 0) (.cons (.cI 0) .nil)))) .nil)) .nil))) .nil)))) (.cons (.ret (.idx (.var 1) (.bin .mod (.var 0) (.cI 7)))) .nil))))
def f23 : FnI := ⟨1, 2, none, b23, none⟩
-- _law_knit ['numbers']
def b24 : Sts := (.cons (.asg (.n 1) (.idx (.call 10 .nil) (.bin .mod (.idx (.var 0) (.cI 0)) (.cI 17)))) (.cons (.ife (.cmp .eq (.bin .mod (.idx (.var 0) (.cI 1)) (.cI 5)) (.cI 0)) (.cons (.ret (.call 23 (.cons (.idx (.var 0) (.cI 0)) .nil))) .nil) .nil) (.cons (.ife (.cmp .eq (.bin .mod (.idx (.var 0) (.cI 1)) (.cI 5)) (.cI 1)) (.cons (.ret (.tup (.cons (.var 1) (.cons (.tup .nil) .nil)))) .nil) .nil) (.cons (.asg (.n 2) (.lc [7] (.n 7) (.r1 (.bi .len (.cons (.var 1) .nil))) (.cons (.cmp .eq (.idx (.var 1) (.var 7)) (.var 7)) .nil) (.var 7))) (.cons (.ife (.cmp .eq (.var 2) (.lst .nil)) (.cons (.ret (.tup (.cons (.var 1) (.cons (.tup .nil) .nil)))) .nil) .nil) (.cons (.asg (.n 3) (.idx (.var 2) (.bin .mod (.idx (.var 0) (.cI 2)) (.bi .len (.cons (.var 2) .nil))))) (.cons (.asg (.n 4) (.lst .nil)) (.cons (.asg (.n 5) (.call 13 (.cons (.var 1) .nil))) (.cons (.fr (.n 6) (.r1 (.bi .len (.cons (.var 5) .nil))) (.cons (.ife (.and (.cmp .notin (.var 3) (.idx (.var 5) (.var 6))) (.cmp .eq (.bin .mod (.bin .fdiv (.idx (.var 0) (.bin .add (.cI 3) (.bin .mod (.var 6) (.bin .sub (.bi .len (.cons (.var 0) .nil)) (.cI 3))))) (.bin .add (.cI 1) (.bin .fdiv (.var 6) (.cI 7)))) (.cI 2)) (.cI 1))) (.cons (.app 4 (.idx (.var 5) (.var 6))) .nil) .nil) .nil)) (.cons (.ret (.tup (.cons (.var 1) (.cons (.bi .tupleOf (.cons (.var 4) .nil)) .nil)))) .nil))))))))))
def f24 : FnI := ⟨1, 8, none, b24, none⟩
-- _law_kind ['back', 'company', 'a', 'b']
def b25 : Sts := (.cons (.ife (.cmp .gt (.var 2) (.var 3)) (.cons (.ret (.idx (.idx (.var 1) (.var 2)) (.var 3))) .nil) .nil) (.cons (.ret (.idx (.var 0) (.idx (.idx (.var 1) (.var 3)) (.var 2)))) .nil))
def f25 : FnI := ⟨4, 4, none, b25, none⟩
-- _law_lets ['back', 'barred', 'company', 'told', 'person', 'kind']
def b26 : Sts := (.cons (.fr (.n 6) (.e (.var 3)) (.cons (.ife (.not (.call 16 (.cons (.var 0) (.cons (.var 1) (.cons (.idx (.var 6) (.cI 1)) (.cons (.call 25 (.cons (.var 0) (.cons (.var 2) (.cons (.idx (.var 6) (.cI 0)) (.cons (.var 4) .nil))))) (.cons (.var 5) .nil))))))) (.cons (.ret (.cB false)) .nil) .nil) .nil)) (.cons (.ret (.cB true)) .nil))
def f26 : FnI := ⟨6, 7, none, b26, none⟩
-- _law_row ['back', 'barred', 'company', 'numbers', 'at']
def b27 : Sts := (.cons (.asg (.n 5) (.lst .nil)) (.cons (.asg (.n 6) (.bi .len (.cons (.var 0) .nil))) (.cons (.fr (.n 7) (.r1 (.bi .len (.cons (.var 2) .nil))) (.cons (.asg (.n 8) (.cB false)) (.cons (.fr (.n 9) (.r1 (.var 6)) (.cons (.asg (.n 10) (.bin .mod (.bin .add (.idx (.var 3) (.bin .mod (.bin .add (.var 4) (.var 7)) (.bi .len (.cons (.var 3) .nil)))) (.var 9)) (.var 6))) (.cons (.ife (.and (.not (.var 8)) (.call 26 (.cons (.var 0) (.cons (.var 1) (.cons (.var 2) (.cons (.var 5) (.cons (.var 7) (.cons (.var 10) .nil)))))))) (.cons (.app 5 (.tup (.cons (.var 7) (.cons (.var 10) .nil)))) (.cons (.asg (.n 8) (.cB true)) .nil)) .nil) .nil))) (.cons (.ife (.not (.var 8)) (.cons (.ret .cN) .nil) .nil) .nil)))) (.cons (.ret (.bi .tupleOf (.cons (.lc [11] (.n 11) (.e (.var 5)) .nil (.idx (.var 11) (.cI 1))) .nil))) .nil))))
def f27 : FnI := ⟨5, 12, none, b27, none⟩
-- _law_company ['back', 'barred', 'numbers', 'many']
def b28 : Sts := (.cons (.asg (.n 4) (.tup .nil)) (.cons (.fr (.n 5) (.r1 (.var 3)) (.cons (.asg (.n 6) (.call 27 (.cons (.var 0) (.cons (.var 1) (.cons (.var 4) (.cons (.var 2) (.cons (.bin .mul (.cI 3) (.var 5)) .nil))))))) (.cons (.ife (.isN (.var 6)) (.cons (.ret (.var 4)) .nil) .nil) (.cons (.asg (.n 4) (.bin .add (.var 4) (.tup (.cons (.var 6) .nil)))) .nil)))) (.cons (.ret (.var 4)) .nil)))
def f28 : FnI := ⟨4, 7, none, b28, none⟩
-- is_company ['book', 'thing']
def b29 : Sts := (.cons (.ife (.not (.isi (.var 1) .tuple)) (.cons (.ret (.cB false)) .nil) .nil) (.cons (.ret (.bi .all (.cons (.lc [2, 3] (.t (.cons (.n 2) (.cons (.n 3) .nil))) (.en (.var 1)) .nil (.call 6 (.cons (.var 3) (.cons (.var 2) (.cons (.fld (.var 0) "kinds") .nil))))) .nil))) .nil))
def f29 : FnI := ⟨2, 4, none, b29, none⟩
-- choices_of ['things', 'many']
def b30 : Sts := (.cons (.asg (.n 2) (.lst (.cons (.tup (.cons (.tup .nil) (.cons (.cI 0) .nil))) .nil))) (.cons (.fr (.n 3) (.r1 (.var 1)) (.cons (.asg (.n 4) (.lst .nil)) (.cons (.fr (.t (.cons (.n 5) (.cons (.n 6) .nil))) (.e (.var 2)) (.cons (.ext 4 (.lc [7] (.n 7) (.r2 (.var 6) (.bin .add (.bin .add (.bin .sub (.bi .len (.cons (.var 0) .nil)) (.var 1)) (.var 3)) (.cI 1))) .nil (.tup (.cons (.bin .add (.var 5) (.tup (.cons (.idx (.var 0) (.var 7)) .nil))) (.cons (.bin .add (.var 7) (.cI 1)) .nil))))) .nil)) (.cons (.asg (.n 2) (.var 4)) .nil)))) (.cons (.ret (.lc [5, 6] (.t (.cons (.n 5) (.cons (.n 6) .nil))) (.e (.var 2)) .nil (.var 5))) .nil)))
def f30 : FnI := ⟨2, 8, none, b30, none⟩
-- kind_from ['book', 'company', 'a', 'b']
def b31 : Sts := (.cons (.ret (.ite (.cmp .lt (.var 3) (.var 2)) (.idx (.idx (.var 1) (.var 2)) (.var 3)) (.idx (.fld (.var 0) "back") (.idx (.idx (.var 1) (.var 3)) (.var 2))))) .nil)
def f31 : FnI := ⟨4, 4, none, b31, none⟩
-- is_let ['book', 'company', 'a', 'b', 'c']
def b32 : Sts := (.cons (.asg (.n 5) (.tup (.cons (.call 31 (.cons (.var 0) (.cons (.var 1) (.cons (.var 2) (.cons (.var 3) .nil))))) (.cons (.call 31 (.cons (.var 0) (.cons (.var 1) (.cons (.var 3) (.cons (.var 4) .nil))))) (.cons (.call 31 (.cons (.var 0) (.cons (.var 1) (.cons (.var 2) (.cons (.var 4) .nil))))) .nil))))) (.cons (.ret (.cmp .isin (.var 5) (.fld (.var 0) "lets"))) .nil))
def f32 : FnI := ⟨5, 6, none, b32, none⟩
-- broken_trios ['book', 'company']
def b33 : Sts := (.cons (.asg (.n 2) (.lst .nil)) (.cons (.fr (.t (.cons (.n 3) (.cons (.n 4) (.cons (.n 5) .nil)))) (.e (.call 30 (.cons (.lR (.r1 (.bi .len (.cons (.var 1) .nil)))) (.cons (.cI 3) .nil)))) (.cons (.ife (.not (.call 32 (.cons (.var 0) (.cons (.var 1) (.cons (.var 3) (.cons (.var 4) (.cons (.var 5) .nil))))))) (.cons (.app 2 (.tup (.cons (.var 3) (.cons (.var 4) (.cons (.var 5) .nil))))) .nil) .nil) .nil)) (.cons (.ret (.var 2)) .nil)))
def f33 : FnI := ⟨2, 6, none, b33, none⟩
-- is_lawful ['book', 'thing']
def b34 : Sts := (.cons (.ret (.and (.call 29 (.cons (.var 0) (.cons (.var 1) .nil))) (.not (.call 33 (.cons (.var 0) (.cons (.var 1) .nil)))))) .nil)
def f34 : FnI := ⟨2, 2, none, b34, none⟩
-- lawful_asked ['book', 'company']
def b35 (e : Nat) : Sts := (.cons (.ife (.not (.call 34 (.cons (.var 0) (.cons (.var 1) .nil)))) (.cons (.rse e .nil) .nil) .nil) .nil)
def f35 (e : Nat) : FnI := ⟨2, 2, none, b35 e, none⟩
-- is_lot ['thing', 'bound']
def b36 : Sts := (.cons (.ife (.or (.not (.isi (.var 0) .tuple)) (.not (.bi .all (.cons (.lc [3] (.n 3) (.e (.var 0)) .nil (.call 4 (.cons (.var 3) (.cons (.var 1) .nil)))) .nil)))) (.cons (.ret (.cB false)) .nil) .nil) (.cons (.ret (.bi .all (.cons (.lc [2] (.n 2) (.r2 (.cI 1) (.bi .len (.cons (.var 0) .nil))) .nil (.cmp .lt (.idx (.var 0) (.bin .sub (.var 2) (.cI 1))) (.idx (.var 0) (.var 2)))) .nil))) .nil))
def f36 : FnI := ⟨2, 4, none, b36, none⟩
end PD.Core
end

section
set_option Elab.async false
set_option linter.all false
set_option maxRecDepth 100000
/-! PD, part 28: companies, as the program judges them. -/
namespace PD.Core
open PySem PD PySem.W
variable {B : Nat → Option FnI} {fi : Nat → Str → Option Nat} {sub : Nat → Nat → Bool} {fu : Nat}
/-! comprehensions over any list of ours -/
section
variable {T : Tab} {ρ : PD.Env} {c e : Ex} {α : Type}
theorem collect_mapA {f : D → R (List D)} {g h : α → D} : ∀ {l : List α}, (∀ a ∈ l, f (g a) = .ok [h a]) → collect f (l.map g) = .ok (l.map h)
  | [], _ => rfl
  | x :: xs, k => bindO (k x List.mem_cons_self) (bindO (collect_mapA fun y hy => k y (List.mem_cons_of_mem _ hy)) rfl)
theorem collect_filA {f : D → R (List D)} {g h : α → D} {p : α → Bool} : ∀ {l : List α}, (∀ a ∈ l, f (g a) = .ok (if p a then [h a] else [])) → collect f (l.map g) = .ok ((l.filter p).map h)
  | [], _ => rfl
  | x :: xs, k => by
    refine bindO (k x List.mem_cons_self) (bindO (collect_filA fun y hy => k y (List.mem_cons_of_mem _ hy)) ?_)
    rw [List.filter_cons]
    cases p x <;> rfl
theorem ev_lcA {own : List Nat} {tg : Tg} {it : It} {l : List α} {g h : α → D} (hi : evIt T it ρ = .ok (l.map g)) (hl : l.length ≤ 100000)
    (k : ∀ a ∈ l, ∃ ρx, bindT tg (g a) (wipeE (unown ρ (rootsI it)) own) = .ok ρx ∧ ev T e ρx = .ok (h a)) : ev T (.lc own tg it .nil e) ρ = .ok (.lst (l.map h)) := by
  refine bindO hi (bindO (x := l.map h) (Eq.trans (congrArg noExc (collect_mapA (h := h) fun a ha => ?_)) rfl) (guardR_t (decide_eq_true (by rw [List.length_map]; exact line_of hl))))
  obtain ⟨ρx, h1, h2⟩ := k a ha
  exact bindO h1 (bindO (x := true) rfl (bindO h2 rfl))
theorem ev_lcfA {own : List Nat} {tg : Tg} {it : It} {l : List α} {g h : α → D} {p : α → Bool} (hi : evIt T it ρ = .ok (l.map g)) (hl : l.length ≤ 100000)
    (k : ∀ a ∈ l, ∃ ρx, bindT tg (g a) (wipeE (unown ρ (rootsI it)) own) = .ok ρx ∧ ev T c ρx = .ok (.bl (p a)) ∧ (p a = true → ev T e ρx = .ok (h a))) : ev T (.lc own tg it (.cons c .nil) e) ρ = .ok (.lst ((l.filter p).map h)) := by
  refine bindO hi (bindO (x := (l.filter p).map h) (Eq.trans (congrArg noExc (collect_filA (h := h) (p := p) fun a ha => ?_)) rfl) (guardR_t (decide_eq_true (by rw [List.length_map]; exact Nat.le_trans (List.length_filter_le _ _) (line_of hl)))))
  obtain ⟨ρx, h1, h2, h3⟩ := k a ha
  refine bindO h1 ?_
  cases hp : p a with
  | true => exact bindO (x := true) (bindO h2 (by rw [hp]; rfl)) (bindO (h3 hp) rfl)
  | false => exact bindO (x := false) (bindO h2 (by rw [hp]; rfl)) rfl
theorem all_A {p : α → Bool} (l : List α) : biD .all [.lst (l.map fun a => D.bl (p a))] = .ok (.bl (l.all p)) := all_bls
end
/-- a loop that may return -/
theorem loopG {f : D → PD.Env → R Fl} {Pd : D → Prop} (n : Nat) (I : Nat → PD.Env → Prop) (ρ : PD.Env) (h : ∀ i ρ, i < n → I i ρ → (∃ ρ', f (nD i) ρ = .ok (.nx ρ') ∧ I (i + 1) ρ') ∨ ∃ d ρ', f (nD i) ρ = .ok (.rt d ρ') ∧ Pd d) (h0 : I 0 ρ) :
    (∃ ρ', loopF f ((List.range n).map nD) ρ = .ok (.nx ρ') ∧ I n ρ') ∨ ∃ d ρ', loopF f ((List.range n).map nD) ρ = .ok (.rt d ρ') ∧ Pd d := by
  have key : ∀ (m i : Nat) (ρ : PD.Env), i + m = n → I i ρ → (∃ ρ', loopF f ((List.range' i m).map nD) ρ = .ok (.nx ρ') ∧ I n ρ') ∨ ∃ d ρ', loopF f ((List.range' i m).map nD) ρ = .ok (.rt d ρ') ∧ Pd d := fun m => by
    induction m with
    | zero => intro i ρ e hI; exact .inl ⟨ρ, rfl, by rw [← e]; exact hI⟩
    | succ m ih =>
      intro i ρ e hI
      rw [List.range'_succ, List.map_cons]
      rcases h i ρ (by omega) hI with ⟨ρ1, h1, h2⟩ | ⟨d, ρ1, h1, h2⟩
      · rcases ih (i + 1) ρ1 (by omega) h2 with ⟨ρ2, h3, h4⟩ | ⟨d, ρ2, h3, h4⟩
        · exact .inl ⟨ρ2, loopF_c h1 h3, h4⟩
        · exact .inr ⟨d, ρ2, loopF_c h1 h3, h4⟩
      · exact .inr ⟨d, ρ1, loopF_rt h1, h2⟩
  rw [List.range_eq_range']
  exact key n 0 ρ (by omega) h0
/-! a company -/
abbrev coD (co : List (List Nat)) : D := .tup (co.map rD)
def cel (co : List (List Nat)) (x y : Nat) : Nat := (co.getD x []).getD y 0
def kindP (b : List Nat) (co : List (List Nat)) (x y : Nat) : Nat := if y < x then cel co x y else bk b (cel co y x)
def Rows (co : List (List Nat)) (n : Nat) : Prop := ∀ (i : Nat) (r : List Nat), co[i]? = some r → r.length = i ∧ ∀ x ∈ r, x < n
theorem cel_ok {co : List (List Nat)} {n x y : Nat} (h : Rows co n) (hx : x < co.length) (hy : y < x) : ∃ r, co[x]? = some r ∧ r[y]? = some (cel co x y) ∧ cel co x y < n := by
  have e : co[x]? = some co[x] := List.getElem?_eq_getElem hx
  obtain ⟨h1, h2⟩ := h x _ e
  have hy' : y < co[x].length := by omega
  have e0 : co.getD x [] = co[x] := by rw [List.getD_eq_getElem?_getD, e]; rfl
  have e2 : cel co x y = co[x][y] := by
    unfold cel
    rw [e0, List.getD_eq_getElem?_getD, List.getElem?_eq_getElem hy']; rfl
  exact ⟨_, e, by rw [e2]; exact List.getElem?_eq_getElem hy', by rw [e2]; exact h2 _ (List.getElem_mem hy')⟩
theorem bk_lt {b : List Nat} {p : Nat} (hb : BackOk b) (hp : p < b.length) : bk b p < b.length := hb.bel _ (List.mem_of_getElem? (bk_get hp))
theorem kindP_lt {b : List Nat} {co : List (List Nat)} {x y : Nat} (hb : BackOk b) (h : Rows co b.length) (hx : x < co.length) (hy : y < co.length) (ne : x ≠ y) : kindP b co x y < b.length := by
  unfold kindP
  split
  · rename_i hh
    obtain ⟨_, _, _, h3⟩ := cel_ok h hx hh
    exact h3
  · obtain ⟨_, _, _, h3⟩ := cel_ok h hy (show x < y by omega)
    exact bk_lt hb h3
section
variable {T : Tab} {ρ : PD.Env} {e1 e2 e3 : Ex} {co : List (List Nat)} {n x y : Nat}
theorem ev_cel (h : Rows co n) (hx : x < co.length) (hy : y < x) (h1 : ev T e1 ρ = .ok (coD co)) (h2 : ev T e2 ρ = .ok (nD x)) (h3 : ev T e3 ρ = .ok (nD y)) : ev T (.idx (.idx e1 e2) e3) ρ = .ok (nD (cel co x y)) := by
  obtain ⟨r, k1, k2, _⟩ := cel_ok h hx hy
  exact (ev_idx ((ev_idx h1 h2).trans (idx_t (x := rD r) (by rw [List.getElem?_map, k1]; rfl))) h3).trans (idx_r k2)
end
theorem len_co (co : List (List Nat)) : biD .len [coD co] = .ok (nD co.length) := by show R.ok (D.int ((co.map rD).length : Int)) = _; rw [List.length_map]
/-- kind_from -/
theorem c31 (hf : BkFi fi) (h31 : B 31 = some f31) {k : Nat} {b : List Nat} {bs co : List (List Nat)} {x y : Nat} (h : Rows co b.length) (hx : x < co.length) (hy : y < co.length) (ne : x ≠ y) :
    callF B fi sub fu (k+1) 31 [bookD b bs, coD co, nD x, nD y] = .ok (nD (kindP b co x y)) := by
  refine callF_run (f := f31) (ρ := [sh (bookD b bs), sh (coD co), sh (nD x), sh (nD y)]) h31 rfl rfl ?_
  have hc := ev_lt (T := tb B fi sub fu k) (ρ := [sh (bookD b bs), sh (coD co), sh (nD x), sh (nD y)]) (a := .var 3) (b := .var 2) (i := (y : Int)) (j := (x : Int)) rfl rfl
  unfold kindP
  by_cases hh : y < x
  · rw [decide_eq_true (Int.ofNat_lt.mpr hh)] at hc
    rw [if_pos hh]
    exact ret_b (ev_ite_t hc (ev_cel h hx hh rfl rfl rfl)) fun _ => rfl
  · rw [decide_eq_false (fun z => hh (Int.ofNat_lt.mp z))] at hc
    rw [if_neg hh]
    obtain ⟨_, _, _, h3⟩ := cel_ok h hy (show x < y by omega)
    exact ret_b (ev_ite_f hc ((ev_idx (fld_back hf rfl) (ev_cel h hy (show x < y by omega) rfl rfl rfl)).trans (bk_idx h3))) fun _ => rfl
/-- the law's own kind -/
theorem c25 (h25 : B 25 = some f25) {k : Nat} {b : List Nat} {co : List (List Nat)} {x y : Nat} (h : Rows co b.length) (hx : x < co.length) (hy : y < co.length) (ne : x ≠ y) :
    callF B fi sub fu (k+1) 25 [rD b, coD co, nD x, nD y] = .ok (nD (kindP b co x y)) := by
  refine callF_run (f := f25) (ρ := [sh (rD b), sh (coD co), sh (nD x), sh (nD y)]) h25 rfl rfl ?_
  have hc := ev_gt (T := tb B fi sub fu k) (ρ := [sh (rD b), sh (coD co), sh (nD x), sh (nD y)]) (a := .var 2) (b := .var 3) (i := (x : Int)) (j := (y : Int)) rfl rfl
  unfold kindP
  by_cases hh : y < x
  · rw [decide_eq_true (Int.ofNat_lt.mpr hh)] at hc
    rw [if_pos hh]
    obtain ⟨ρ', h1⟩ := ret_l (T := tb B fi sub fu k) (s := .nil) (ev_cel (T := tb B fi sub fu k) (ρ := [sh (rD b), sh (coD co), sh (nD x), sh (nD y)]) (e1 := .var 1) (e2 := .var 2) (e3 := .var 3) h hx hh rfl rfl rfl)
    exact bindO (bindO (rn_if_t hc h1) rfl) rfl
  · rw [decide_eq_false (fun z => hh (Int.ofNat_lt.mp z))] at hc
    rw [if_neg hh]
    obtain ⟨_, _, _, h3⟩ := cel_ok h hy (show x < y by omega)
    refine stepB (rn_if_n hc) ?_
    exact ret_b ((ev_idx rfl (ev_cel h hy (show x < y by omega) rfl rfl rfl)).trans (bk_idx h3)) fun _ => rfl
/-- is_let -/
def letC (b : List Nat) (bs co : List (List Nat)) (x y z : Nat) : Bool := letB b bs [kindP b co x y, kindP b co y z, kindP b co x z]
theorem c32 (hf : BkFi fi) (h31 : B 31 = some f31) (h32 : B 32 = some f32) {k : Nat} {b : List Nat} {bs co : List (List Nat)} {x y z : Nat} (hb : BackOk b) (h : Rows co b.length) (hx : x < co.length) (hy : y < co.length) (hz : z < co.length) (n1 : x ≠ y) (n2 : y ≠ z) (n3 : x ≠ z) :
    callF B fi sub fu (k+2) 32 [bookD b bs, coD co, nD x, nD y, nD z] = .ok (.bl (letC b bs co x y z)) := by
  refine callF_run (f := f32) (ρ := [sh (bookD b bs), sh (coD co), sh (nD x), sh (nD y), sh (nD z), none]) h32 rfl rfl ?_
  refine stepB (ρ' := [sh (bookD b bs), sh (coD co), sh (nD x), sh (nD y), sh (nD z), sh (rD [kindP b co x y, kindP b co y z, kindP b co x z])]) (rn_asg (ev_t3 (cl (xs := [bookD b bs, coD co, nD x, nD y]) rfl (c31 hf h31 h hx hy n1)) (cl (xs := [bookD b bs, coD co, nD y, nD z]) rfl (c31 hf h31 h hy hz n2)) (cl (xs := [bookD b bs, coD co, nD x, nD z]) rfl (c31 hf h31 h hx hz n3))) rfl rfl rfl) ?_
  exact ret_b ((ev_cmp rfl (fld_lets hf rfl)).trans (in_lets (mem_tris (kindP_lt hb h hx hy n1) (kindP_lt hb h hy hz n2) (kindP_lt hb h hx hz n3)))) fun _ => rfl
/-! lists grown part by part -/
theorem ev_tp {T : Tab} {ρ : PD.Env} {a b : Ex} {x y : D} (ha : ev T a ρ = .ok x) (hb : ev T b ρ = .ok y) : ev T (.tup (.cons a (.cons b .nil))) ρ = .ok (.tup [x, y]) := bindO (evsC ha (evsC hb rfl)) rfl
theorem ev_addT {T : Tab} {ρ : PD.Env} {a b : Ex} {xs ys : List D} (ha : ev T a ρ = .ok (.tup xs)) (hb : ev T b ρ = .ok (.tup ys)) (h : xs.length + ys.length ≤ 100000) : ev T (.bin .add a b) ρ = .ok (.tup (xs ++ ys)) :=
  (ev_bin ha hb).trans (guardR_t (decide_eq_true (line_of h)))
theorem loopY {α β : Type} {f : D → PD.Env → R Fl} {g : α → D} {h : α → List β} {V : List β → PD.Env → Prop} {m N : Nat} : ∀ (l : List α) (acc : List β) (ρ : PD.Env), (∀ a ∈ l, ∀ acc ρ, acc.length + (h a).length ≤ N → V acc ρ → ∃ ρ', f (g a) ρ = .ok (.nx ρ') ∧ V (acc ++ h a) ρ') → (∀ a ∈ l, (h a).length ≤ m) → acc.length + m * l.length ≤ N → V acc ρ →
    ∃ ρ', loopF f (l.map g) ρ = .ok (.nx ρ') ∧ V (acc ++ l.flatMap h) ρ'
  | [], acc, ρ, _, _, _, hV => ⟨ρ, rfl, by rw [List.flatMap_nil, List.append_nil]; exact hV⟩
  | a :: l, acc, ρ, hs, hm, hN, hV => by
    have ha := hm a List.mem_cons_self
    rw [List.length_cons, Nat.mul_succ] at hN
    obtain ⟨ρ1, h1, h2⟩ := hs a List.mem_cons_self acc ρ (by omega) hV
    obtain ⟨ρ2, h3, h4⟩ := loopY l (acc ++ h a) ρ1 (fun b hb => hs b (List.mem_cons_of_mem _ hb)) (fun b hb => hm b (List.mem_cons_of_mem _ hb)) (by rw [List.length_append]; omega) h2
    refine ⟨ρ2, loopF_c h1 h3, ?_⟩
    rw [List.flatMap_cons, ← List.append_assoc]
    exact h4
theorem flatY {α β : Type} {h : α → List β} {m : Nat} : ∀ l : List α, (∀ a ∈ l, (h a).length ≤ m) → (l.flatMap h).length ≤ m * l.length
  | [], _ => Nat.zero_le _
  | a :: l, hm => by
    have h1 := flatY l fun b hb => hm b (List.mem_cons_of_mem _ hb)
    have h2 := hm a List.mem_cons_self
    rw [List.flatMap_cons, List.length_append, List.length_cons, Nat.mul_succ]
    omega
theorem rn_extG {T : Tab} {ρ : PD.Env} {i : Nat} {e : Ex} {ds xs : List D} (hs : slotE ρ i = some (.f (.ol ds))) (he : ev T e ρ = .ok (.lst xs)) (hu : unown ρ (roots e) = ρ) (hl : ds.length + xs.length ≤ line) : rn T (.ext i e) ρ = .ok (.nx (ρ.set i (some (.f (.ol (ds ++ xs)))))) := by
  have h1 : rn T (.ext i e) ρ = (ev T e ρ).bind fun x => (match x with
      | .lst xs => (appO (keepR ρ (roots e) x) i xs).bind fun ρ => R.ok (Fl.nx ρ)
      | _ => .stk) := by
    show (match slotE ρ i with
      | some (.f (.ol _)) => (ev T e ρ).bind fun x => (match x with
        | .lst xs => (appO (keepR ρ (roots e) x) i xs).bind fun ρ => R.ok (Fl.nx ρ)
        | _ => .stk)
      | _ => .stk) = _
    rw [hs]
  rw [h1, he]
  show (appO (keepR ρ (roots e) (.lst xs)) i xs).bind _ = _
  rw [show keepR ρ (roots e) (.lst xs) = ρ from hu]
  unfold appO
  rw [hs]
  exact bindO (guardR_t (decide_eq_true hl)) rfl
theorem rn_frW {T : Tab} {ρ : PD.Env} {g : Tg} {it : It} {bd : Sts} {xs : List D} {w : R Fl} (hi : evIt T it ρ = .ok xs) (h : loopF (fun x ρ => (bindT g x ρ).bind fun ρ => rns T bd ρ) xs (unown ρ (rootsI it)) = w) : rn T (.fr g it bd) ρ = w := bindO hi h
theorem ints_at : ∀ (m a : Nat), intsD (a : Int) m = (List.range' a m).map nD
  | 0, _ => rfl
  | m + 1, a => by
    rw [intsD, List.range'_succ, List.map_cons, show ((a : Int) + 1) = ((a + 1 : Nat) : Int) from rfl, ints_at m (a + 1)]
theorem evIt_to {T : Tab} {ρ : PD.Env} {e e' : Ex} {x : Nat} {j : Int} (ha : ev T e ρ = .ok (nD x)) (hb : ev T e' ρ = .ok (.int j)) (hx : x ≤ 100000) (h1 : -100000 ≤ j) (h2 : j ≤ 100000) : evIt T (.r2 e e') ρ = .ok ((List.range' x (j.toNat - x)).map nD) := by
  have hs : (smallI (x : Int) && smallI j) = true := by
    unfold smallI
    rw [Bool.and_eq_true, Bool.and_eq_true, Bool.and_eq_true, decide_eq_true_eq, decide_eq_true_eq, decide_eq_true_eq, decide_eq_true_eq]
    refine ⟨⟨?_, ?_⟩, ?_, ?_⟩ <;> omega
  rw [evIt_r2 (i := (x : Int)) (j := j) ha hb hs, show (j - (x : Int)).toNat = j.toNat - x by omega, ints_at]
/-! all triples of persons -/
abbrev pB (p : List Nat × Nat) : D := .tup [rD p.1, nD p.2]
def nxt (n t : Nat) (p : List Nat × Nat) : List (List Nat × Nat) := (List.range' p.2 (n + t - 2 - p.2)).map fun a => (p.1 ++ [a], a + 1)
structure Asc (n t : Nat) (p : List Nat × Nat) : Prop where
  len : p.1.length = t
  up : p.1.Pairwise (· < ·)
  bel : ∀ x ∈ p.1, x < p.2
  le : p.2 ≤ n
theorem nxt_asc {n t : Nat} (ht : t < 3) {p q : List Nat × Nat} (h : Asc n t p) (hq : q ∈ nxt n t p) : Asc n (t + 1) q := by
  obtain ⟨a, ha, rfl⟩ := List.mem_map.mp hq
  have ha := List.mem_range'_1.mp ha
  refine ⟨by rw [List.length_append, h.len]; rfl, List.pairwise_append.mpr ⟨h.up, List.pairwise_singleton _ _, fun x hx y hy => ?_⟩, fun x hx => ?_, by show a + 1 ≤ n; omega⟩
  · rw [List.mem_singleton] at hy
    subst hy
    have := h.bel x hx
    omega
  · rcases List.mem_append.mp hx with hx | hx
    · have := h.bel x hx
      show x < a + 1
      omega
    · rw [List.mem_singleton] at hx
      subst hx
      exact Nat.lt_succ_self _
theorem nxt_len {n t : Nat} (ht : t < 3) {p : List Nat × Nat} : (nxt n t p).length ≤ n := by
  unfold nxt
  rw [List.length_map, List.length_range']
  omega
abbrev E30 (n : Nat) (x : OF) (o3 o4 o5 o6 : Option OD) : PD.Env := [sh (lD (List.range n)), sh (.int 3), some (.f x), o3, o4, o5, o6, none]
def g30 : Sts := .cons (.ext 4 (.lc [7] (.n 7) (.r2 (.var 6) (.bin .add (.bin .add (.bin .sub (.bi .len (.cons (.var 0) .nil)) (.var 1)) (.var 3)) (.cI 1))) .nil (.tup (.cons (.bin .add (.var 5) (.tup (.cons (.idx (.var 0) (.var 7)) .nil))) (.cons (.bin .add (.var 7) (.cI 1)) .nil))))) .nil
def s30 : Sts := .cons (.asg (.n 4) (.lst .nil)) (.cons (.fr (.t (.cons (.n 5) (.cons (.n 6) .nil))) (.e (.var 2)) g30) (.cons (.asg (.n 2) (.var 4)) .nil))
theorem ext30 {T : Tab} {n t : Nat} (hn : n ≤ 45) (ht : t < 3) {x : OF} {p : List Nat × Nat} (hp : Asc n t p) (acc : List (List Nat × Nat)) (hN : acc.length + (nxt n t p).length ≤ 100000) : rns T g30 (E30 n x (sh (nD t)) (some (.f (.ol (acc.map pB)))) (sh (rD p.1)) (sh (nD p.2))) = .ok (.nx (E30 n x (sh (nD t)) (some (.f (.ol ((acc ++ nxt n t p).map pB)))) (sh (rD p.1)) (sh (nD p.2)))) := by
  have hi : evIt T (.r2 (.var 6) (.bin .add (.bin .add (.bin .sub (.bi .len (.cons (.var 0) .nil)) (.var 1)) (.var 3)) (.cI 1))) (E30 n x (sh (nD t)) (some (.f (.ol (acc.map pB)))) (sh (rD p.1)) (sh (nD p.2))) = .ok ((List.range' p.2 (n + t - 2 - p.2)).map nD) := by
    have hlen : ev T (.bi .len (.cons (.var 0) .nil)) (E30 n x (sh (nD t)) (some (.f (.ol (acc.map pB)))) (sh (rD p.1)) (sh (nD p.2))) = .ok (.int (n : Int)) := by
      refine (ev_bi (evs1 (x := lD (List.range n)) rfl) (len_ln _)).trans ?_
      rw [List.length_range]
    have := evIt_to (T := T) (e := .var 6) (e' := .bin .add (.bin .add (.bin .sub (.bi .len (.cons (.var 0) .nil)) (.var 1)) (.var 3)) (.cI 1)) (ρ := E30 n x (sh (nD t)) (some (.f (.ol (acc.map pB)))) (sh (rD p.1)) (sh (nD p.2))) (x := p.2) (j := (n : Int) - 3 + (t : Int) + 1) rfl (ev_add (ev_add (ev_sub hlen rfl) rfl) rfl) (by have := hp.le; omega) (by omega) (by omega)
    rw [this, show ((n : Int) - 3 + (t : Int) + 1).toNat = n + t - 2 by omega]
  have he := ev_lcA (T := T) (own := [7]) (tg := .n 7) (e := .tup (.cons (.bin .add (.var 5) (.tup (.cons (.idx (.var 0) (.var 7)) .nil))) (.cons (.bin .add (.var 7) (.cI 1)) .nil))) (g := nD) (h := fun a => pB (p.1 ++ [a], a + 1)) hi (by rw [List.length_range']; omega) fun a ha => by
    have ha := List.mem_range'_1.mp ha
    have hl := hp.len
    refine ⟨[sh (lD (List.range n)), sh (.int 3), some (.f x), sh (nD t), some (.f (.ol (acc.map pB))), sh (rD p.1), sh (nD p.2), sh (nD a)], rfl, ev_tp ?_ (evn_add (x := a) (y := 1) rfl rfl)⟩
    have ea : ev T (.tup (.cons (.idx (.var 0) (.var 7)) .nil)) [sh (lD (List.range n)), sh (.int 3), some (.f x), sh (nD t), some (.f (.ol (acc.map pB))), sh (rD p.1), sh (nD p.2), sh (nD a)] = .ok (.tup [nD a]) := by
      refine bindO (x := [nD a]) (evs1 ((ev_idx (x := lD (List.range n)) (y := nD a) rfl rfl).trans (idx_ln (v := a) ?_))) rfl
      rw [List.getElem?_eq_getElem (by rw [List.length_range]; omega), List.getElem_range]
    refine (ev_addT (xs := p.1.map nD) (ys := [nD a]) rfl ea (by rw [List.length_map]; show p.1.length + 1 ≤ _; omega)).trans ?_
    show R.ok (D.tup (p.1.map nD ++ [nD a])) = R.ok (D.tup ((p.1 ++ [a]).map nD))
    rw [List.map_append]; rfl
  have h := rn_extG (T := T) (ρ := E30 n x (sh (nD t)) (some (.f (.ol (acc.map pB)))) (sh (rD p.1)) (sh (nD p.2))) (i := 4) (ds := acc.map pB) rfl he rfl (by
    unfold nxt at hN
    rw [List.length_map] at hN
    rw [List.length_map, List.length_map]; exact line_of hN)
  refine stp (h.trans ?_) rfl
  rw [show acc.map pB ++ (List.range' p.2 (n + t - 2 - p.2)).map (fun a => pB (p.1 ++ [a], a + 1)) = (acc ++ nxt n t p).map pB by unfold nxt; rw [List.map_append, List.map_map]; rfl]
  rfl
theorem step30 {T : Tab} {n t M : Nat} (hn : n ≤ 45) (ht : t < 3) {x : OF} {F : List (List Nat × Nat)} (hx : x.d = .lst (F.map pB)) (hF : ∀ p ∈ F, Asc n t p) (hM : F.length ≤ M) (hM2 : n * M ≤ 100000) (o3 o4 o5 o6 : Option OD) :
    ∃ x' o4' o5' o6', (bindT (.n 3) (nD t) (E30 n x o3 o4 o5 o6)).bind (fun ρ => rns T s30 ρ) = .ok (.nx (E30 n x' (sh (nD t)) o4' o5' o6')) ∧ x'.d = .lst ((F.flatMap (nxt n t)).map pB) ∧ (∀ p ∈ F.flatMap (nxt n t), Asc n (t + 1) p) ∧ (F.flatMap (nxt n t)).length ≤ n * M := by
  have hb : n * F.length ≤ n * M := Nat.mul_le_mul_left n hM
  obtain ⟨ρ', h1, q5, q6, e⟩ := loopY (m := n) (N := 100000) (f := fun x ρ => (bindT (.t (.cons (.n 5) (.cons (.n 6) .nil))) x ρ).bind fun ρ => rns T g30 ρ) (g := pB) (h := nxt n t) (V := fun acc ρ => ∃ o5 o6, ρ = E30 n (.sh x.d) (sh (nD t)) (some (.f (.ol (acc.map pB)))) o5 o6) F [] (E30 n (.sh x.d) (sh (nD t)) (some (.f (.ol []))) o5 o6) (fun p hp acc ρ hN ⟨o5, o6, e⟩ => by
    subst e
    exact ⟨_, bindO (x := E30 n (.sh x.d) (sh (nD t)) (some (.f (.ol (acc.map pB)))) (sh (rD p.1)) (sh (nD p.2))) rfl (ext30 hn ht (hF p hp) acc hN), _, _, rfl⟩) (fun p _ => nxt_len ht) (by show 0 + n * F.length ≤ _; omega) ⟨o5, o6, rfl⟩
  subst e
  rw [List.nil_append] at h1
  refine ⟨.sh (.lst ((F.flatMap (nxt n t)).map pB)), sh (.lst ((F.flatMap (nxt n t)).map pB)), q5, q6, ?_, rfl, fun q hq => ?_, ?_⟩
  · refine bindO (x := E30 n x (sh (nD t)) o4 o5 o6) rfl ?_
    refine stp (ρ' := E30 n x (sh (nD t)) (some (.f (.ol []))) o5 o6) rfl ?_
    refine stp (ρ' := E30 n (.sh x.d) (sh (nD t)) (some (.f (.ol ((F.flatMap (nxt n t)).map pB)))) q5 q6) (rn_frW (xs := F.map pB) (evIt_e (x := x.d) rfl (by rw [hx]; rfl)) h1) ?_
    exact stp rfl rfl
  · obtain ⟨p, hp, hq⟩ := List.mem_flatMap.mp hq
    exact nxt_asc ht (hF p hp) hq
  · have := flatY (h := nxt n t) (m := n) F fun p _ => nxt_len ht
    omega
theorem three {p : List Nat × Nat} {n : Nat} (h : Asc n 3 p) : ∃ x y z, p.1 = [x, y, z] ∧ x < y ∧ y < z ∧ z < n := by
  obtain ⟨r, m⟩ := p
  have hl := h.len
  have hu := h.up
  have hb := h.bel
  have hle := h.le
  match r, hl with
  | [x, y, z], _ =>
    have h1 := List.pairwise_cons.mp hu
    have h2 := List.pairwise_cons.mp h1.2
    have h3 := hb z (by simp)
    exact ⟨x, y, z, rfl, h1.1 y (by simp), h2.1 z (by simp), Nat.lt_of_lt_of_le h3 hle⟩
theorem c30 (h30 : B 30 = some f30) {k n : Nat} (hn : n ≤ 45) : ∃ l : List (List Nat), callF B fi sub fu (k+1) 30 [lD (List.range n), .int 3] = .ok (.lst (l.map rD)) ∧ l.length ≤ 100000 ∧ (∀ t ∈ l, ∃ x y z, t = [x, y, z] ∧ x < y ∧ y < z ∧ z < n) ∧ ∀ x y z, x < y → y < z → z < n → [x, y, z] ∈ l := by
  obtain ⟨x1, a4, a5, a6, s1, d1, g1, l1⟩ := step30 (T := tb B fi sub fu k) (M := 1) hn (show 0 < 3 by decide) (x := .ol [pB ([], 0)]) (F := [([], 0)]) rfl (fun p hp => by
    rw [List.mem_singleton] at hp
    subst hp
    exact ⟨rfl, .nil, (fun x hx => nomatch hx), Nat.zero_le _⟩) (Nat.le_refl _) (by omega) none none none none
  obtain ⟨x2, b4, b5, b6, s2, d2, g2, l2⟩ := step30 (T := tb B fi sub fu k) (M := 45) hn (show 1 < 3 by decide) d1 g1 (by omega) (by omega) (sh (nD 0)) a4 a5 a6
  obtain ⟨x3, e4, e5, e6, s3, d3, g3, l3⟩ := step30 (T := tb B fi sub fu k) (M := 2025) hn (show 2 < 3 by decide) d2 g2 (by omega) (by omega) (sh (nD 1)) b4 b5 b6
  refine ⟨((([([], 0)] : List (List Nat × Nat)).flatMap (nxt n 0)).flatMap (nxt n 1)).flatMap (nxt n 2) |>.map fun p => p.1, ?_, by rw [List.length_map]; omega, fun t ht => ?_, fun x y z h1 h2 h3 => ?_⟩
  · refine callF_run (f := f30) (ρ := [sh (lD (List.range n)), sh (.int 3), none, none, none, none, none, none]) h30 rfl rfl ?_
    refine stepB (ρ' := E30 n (.ol [pB ([], 0)]) none none none none) rfl ?_
    refine stepB (ρ' := E30 n x3 (sh (nD 2)) e4 e5 e6) (rn_fr (xs := [nD 0, nD 1, nD 2]) rfl rfl (loopF_c s1 (loopF_c s2 (loopF_c s3 rfl)))) ?_
    have e := ev_lcA (T := tb B fi sub fu k) (ρ := E30 n x3 (sh (nD 2)) e4 e5 e6) (own := [5, 6]) (tg := .t (.cons (.n 5) (.cons (.n 6) .nil))) (it := .e (.var 2)) (e := .var 5) (l := ((([([], 0)] : List (List Nat × Nat)).flatMap (nxt n 0)).flatMap (nxt n 1)).flatMap (nxt n 2)) (g := pB) (h := fun p => rD p.1) (evIt_e (x := x3.d) rfl (by rw [d3]; rfl)) (by omega) fun p hp => ⟨_, rfl, rfl⟩
    refine ret_b (d := .lst ((((([([], 0)] : List (List Nat × Nat)).flatMap (nxt n 0)).flatMap (nxt n 1)).flatMap (nxt n 2) |>.map fun p => p.1).map rD)) (e.trans ?_) fun _ => rfl
    rw [List.map_map]; rfl
  · obtain ⟨p, hp, rfl⟩ := List.mem_map.mp ht
    exact three (g3 p hp)
  · refine List.mem_map.mpr ⟨([x, y, z], z + 1), List.mem_flatMap.mpr ⟨([x, y], y + 1), List.mem_flatMap.mpr ⟨([x], x + 1), List.mem_flatMap.mpr ⟨([], 0), List.mem_singleton.mpr rfl, ?_⟩, ?_⟩, ?_⟩, rfl⟩
    · exact List.mem_map.mpr ⟨x, List.mem_range'_1.mpr ⟨Nat.zero_le _, by show x < 0 + (n + 0 - 2 - 0); omega⟩, rfl⟩
    · exact List.mem_map.mpr ⟨y, List.mem_range'_1.mpr ⟨h1, by show y < x + 1 + (n + 1 - 2 - (x + 1)); omega⟩, rfl⟩
    · exact List.mem_map.mpr ⟨z, List.mem_range'_1.mpr ⟨h2, by show z < y + 1 + (n + 2 - 2 - (y + 1)); omega⟩, rfl⟩
def Lawful (b : List Nat) (bs co : List (List Nat)) : Prop := ∀ x y z, x < y → y < z → z < co.length → letC b bs co x y z = true
/-- broken_trios of a lawful company -/
theorem c33 (hf : BkFi fi) (h30 : B 30 = some f30) (h31 : B 31 = some f31) (h32 : B 32 = some f32) (h33 : B 33 = some f33) {k : Nat} {b : List Nat} {bs co : List (List Nat)} (hb : BackOk b) (h : Rows co b.length) (hl : Lawful b bs co) (hn : co.length ≤ 45) :
    callF B fi sub fu (k+3) 33 [bookD b bs, coD co] = .ok (.lst []) := by
  refine callF_run (f := f33) (ρ := [sh (bookD b bs), sh (coD co), none, none, none, none]) h33 rfl rfl ?_
  refine stepB (ρ' := [sh (bookD b bs), sh (coD co), some (.f (.ol [])), none, none, none]) rfl ?_
  have loop : ∀ (l : List (List Nat)) (o3 o4 o5 : Option OD), (∀ t ∈ l, ∃ x y z, t = [x, y, z] ∧ x < y ∧ y < z ∧ z < co.length) → ∃ o3' o4' o5', loopF (fun t ρ => (bindT (.t (.cons (.n 3) (.cons (.n 4) (.cons (.n 5) .nil)))) t ρ).bind fun ρ => rns (tb B fi sub fu (k+2)) (.cons (.ife (.not (.call 32 (.cons (.var 0) (.cons (.var 1) (.cons (.var 3) (.cons (.var 4) (.cons (.var 5) .nil))))))) (.cons (.app 2 (.tup (.cons (.var 3) (.cons (.var 4) (.cons (.var 5) .nil))))) .nil) .nil) .nil) ρ) (l.map rD) [sh (bookD b bs), sh (coD co), some (.f (.ol [])), o3, o4, o5] = .ok (.nx [sh (bookD b bs), sh (coD co), some (.f (.ol [])), o3', o4', o5']) := fun l => by
    induction l with
    | nil => intro o3 o4 o5 _; exact ⟨o3, o4, o5, rfl⟩
    | cons t l ih =>
      intro o3 o4 o5 ht
      obtain ⟨x, y, z, rfl, h1, h2, h3⟩ := ht t List.mem_cons_self
      obtain ⟨o3', o4', o5', hh⟩ := ih (sh (nD x)) (sh (nD y)) (sh (nD z)) fun t ht' => ht t (List.mem_cons_of_mem _ ht')
      refine ⟨o3', o4', o5', loopF_c (ρ1 := [sh (bookD b bs), sh (coD co), some (.f (.ol [])), sh (nD x), sh (nD y), sh (nD z)]) (bindO (x := [sh (bookD b bs), sh (coD co), some (.f (.ol [])), sh (nD x), sh (nD y), sh (nD z)]) rfl (stp (rn_if_n (evNot (k := true) (cl (xs := [bookD b bs, coD co, nD x, nD y, nD z]) rfl ?_))) rfl)) hh⟩
      rw [c32 hf h31 h32 hb h (by omega) (by omega) h3 (by omega) (by omega) (by omega), hl x y z h1 h2 h3]
  obtain ⟨tl, ht1, _, ht2, _⟩ := c30 (fi := fi) (sub := sub) (fu := fu) (k := k+1) h30 hn
  obtain ⟨o3, o4, o5, hh⟩ := loop tl none none none ht2
  refine stepB (ρ' := [sh (bookD b bs), sh (coD co), some (.f (.ol [])), o3, o4, o5]) (rn_fr (xs := tl.map rD) (evIt_e (x := .lst (tl.map rD)) (cl (xs := [lD (List.range co.length), .int 3]) (evsC ?_ rfl) ht1) rfl) rfl hh) ?_
  · refine bindO (evIt_n (ev_bi (evs1 (x := coD co) rfl) (len_co co)) (by omega)) (guardR_t (decide_eq_true ?_))
    rw [List.length_map, List.length_range]
    exact line_of (by omega)
  · exact ret_b rfl fun _ => rfl
/-! is_company -/
def belowB (a : List Nat) (m n : Nat) : Bool := decide (a.length = m) && a.all fun x => decide (x < n)
theorem c6g (h3 : B 3 = some f3) (h4 : B 4 = some f4) (h6 : B 6 = some f6) {k m n : Nat} {a : List Nat} (ha : a.length ≤ 1000) : callF B fi sub fu (k+3) 6 [rD a, nD m, nD n] = .ok (.bl (belowB a m n)) := by
  refine callF_run (f := f6) (ρ := [sh (rD a), sh (nD m), sh (nD n), none]) h6 rfl rfl ?_
  have hc : ev (tb B fi sub fu (k+2)) (.or (.not (.isi (.var 0) .tuple)) (.cmp .ne (.bi .len (.cons (.var 0) .nil)) (.var 1))) [sh (rD a), sh (nD m), sh (nD n), none] = .ok (.bl (!decide (a.length = m))) :=
    ev_or_f (evNot (k := true) rfl) ((ev_cmp (x := nD a.length) (y := nD m) (ev_bi (evs1 (x := rD a) rfl) (len_r a)) rfl).trans ((ne_i _ _).trans (by rw [show decide ((a.length : Int) = (m : Int)) = decide (a.length = m) from decide_eq_decide.mpr Int.ofNat_inj])))
  unfold belowB
  by_cases e : a.length = m
  · rw [decide_eq_true e] at hc ⊢
    refine stepB (rn_if_n hc) ?_
    refine ret_b (ev_bi (evs1 (ev_lcA (l := a) (g := nD) (h := fun x => .bl (decide (x < n))) rfl (by omega) fun x hx => ?_)) (all_A a)) fun _ => rfl
    exact ⟨[sh (rD a), sh (nD m), sh (nD n), sh (nD x)], rfl, cl (xs := [nD x, nD n]) rfl (c4 h3 h4)⟩
  · rw [decide_eq_false e] at hc ⊢
    obtain ⟨ρ', h1⟩ := ret_l (T := tb B fi sub fu (k+2)) (ρ := [sh (rD a), sh (nD m), sh (nD n), none]) (e := .cB false) (s := .nil) rfl
    exact bindO (bindO (rn_if_t hc h1) rfl) rfl
theorem evIt_en {T : Tab} {ρ : PD.Env} {a : Ex} {x : D} {xs : List D} (h : ev T a ρ = .ok x) (h2 : itemsD x = .ok xs) : evIt T (.en a) ρ = .ok (enumFrom 0 xs) := bindO h (bindO h2 rfl)
theorem enum_r : ∀ (co : List (List Nat)) (i : Nat), enumFrom (i : Nat) (co.map rD) = (co.zipIdx i).map fun p => D.tup [nD p.2, rD p.1]
  | [], _ => rfl
  | r :: co, i => by
    rw [List.map_cons, enumFrom, List.zipIdx_cons, List.map_cons]
    have := enum_r co (i + 1)
    rw [show ((i + 1 : Nat) : Int) = (i : Int) + 1 from rfl] at this
    rw [this]
theorem c29 (hf : BkFi fi) (h3 : B 3 = some f3) (h4 : B 4 = some f4) (h6 : B 6 = some f6) (h29 : B 29 = some f29) {k : Nat} {b : List Nat} {bs co : List (List Nat)} (hl : co.length ≤ 1000) (hr : ∀ r ∈ co, r.length ≤ 1000) :
    callF B fi sub fu (k+4) 29 [bookD b bs, coD co] = .ok (.bl (co.zipIdx.all fun p => belowB p.1 p.2 b.length)) := by
  refine callF_run (f := f29) (ρ := [sh (bookD b bs), sh (coD co), none, none]) h29 rfl rfl ?_
  refine stepB (rn_if_n (evNot (k := true) rfl)) ?_
  refine ret_b (ev_bi (evs1 (ev_lcA (l := co.zipIdx) (g := fun p => D.tup [nD p.2, rD p.1]) (h := fun p => .bl (belowB p.1 p.2 b.length)) ?_ (by rw [List.length_zipIdx]; omega) fun p hp => ?_)) (all_A _)) fun _ => rfl
  · rw [← enum_r co 0]
    exact evIt_en (x := coD co) rfl rfl
  · refine ⟨[sh (bookD b bs), sh (coD co), sh (nD p.2), sh (rD p.1)], rfl, ?_⟩
    refine cl (xs := [rD p.1, nD p.2, nD b.length]) (evsC rfl (evsC rfl (evs1 (fld_kinds hf rfl)))) (c6g h3 h4 h6 (hr _ ?_))
    obtain ⟨h1, h2⟩ := List.mem_zipIdx' hp
    rw [h2]; exact List.getElem_mem _
theorem rows_all {co : List (List Nat)} {n : Nat} (h : Rows co n) : (co.zipIdx.all fun p => belowB p.1 p.2 n) = true := by
  rw [List.all_eq_true]
  intro p hp
  obtain ⟨h1, h2⟩ := List.mem_zipIdx' hp
  obtain ⟨k1, k2⟩ := h p.2 p.1 (by rw [h2]; exact List.getElem?_eq_getElem h1)
  unfold belowB
  rw [decide_eq_true k1, Bool.true_and, List.all_eq_true]
  exact fun x hx => decide_eq_true (k2 x hx)
/-- a lawful company -/
structure Good (b : List Nat) (bs co : List (List Nat)) : Prop where
  rows : Rows co b.length
  law : Lawful b bs co
theorem rows_len {co : List (List Nat)} {n : Nat} (h : Rows co n) : ∀ r ∈ co, r.length ≤ co.length := fun r hr => by
  obtain ⟨i, hi, rfl⟩ := List.getElem_of_mem hr
  have := (h i _ (List.getElem?_eq_getElem hi)).1
  omega
structure CoB (B : Nat → Option FnI) (fi : Nat → Str → Option Nat) (er : Nat) : Prop where
  hf : BkFi fi
  h3 : B 3 = some f3
  h4 : B 4 = some f4
  h6 : B 6 = some f6
  h29 : B 29 = some f29
  h30 : B 30 = some f30
  h31 : B 31 = some f31
  h32 : B 32 = some f32
  h33 : B 33 = some f33
  h34 : B 34 = some f34
  h35 : B 35 = some (f35 er)
theorem c34 {er : Nat} (Z : CoB B fi er) {k : Nat} {b : List Nat} {bs co : List (List Nat)} (hb : BackOk b) (h : Good b bs co) (hn : co.length ≤ 45) : callF B fi sub fu (k+5) 34 [bookD b bs, coD co] = .ok (.bl true) := by
  refine callF_run (f := f34) (ρ := [sh (bookD b bs), sh (coD co)]) Z.h34 rfl rfl ?_
  have hr := rows_len h.rows
  have e1 := c29 (B := B) (fi := fi) (sub := sub) (fu := fu) (k := k) (b := b) (bs := bs) (co := co) Z.hf Z.h3 Z.h4 Z.h6 Z.h29 (by omega) (fun r hh => by have := hr r hh; omega)
  rw [rows_all h.rows] at e1
  exact ret_b (ev_and_t (cl (xs := [bookD b bs, coD co]) rfl e1) (bindO (cl (xs := [bookD b bs, coD co]) rfl (c33 (k := k + 1) Z.hf Z.h30 Z.h31 Z.h32 Z.h33 hb h.rows h.law hn)) rfl)) fun _ => rfl
/-- lawful_asked -/
theorem c35 {er : Nat} (Z : CoB B fi er) {k : Nat} {b : List Nat} {bs co : List (List Nat)} (hb : BackOk b) (h : Good b bs co) (hn : co.length ≤ 45) : callF B fi sub fu (k+6) 35 [bookD b bs, coD co] = .ok .non := by
  refine callF_run (f := f35 er) (ρ := [sh (bookD b bs), sh (coD co)]) Z.h35 rfl rfl ?_
  exact stepB (rn_if_n (evNot (k := true) (cl (xs := [bookD b bs, coD co]) rfl (c34 Z hb h hn)))) rfl
/-- .. of what is no company -/
theorem c35x {er : Nat} (Z : CoB B fi er) {k : Nat} {b : List Nat} {bs co : List (List Nat)} (hl : co.length ≤ 1000) (hr : ∀ r ∈ co, r.length ≤ 1000) (h : (co.zipIdx.all fun p => belowB p.1 p.2 b.length) = false) : callF B fi sub fu (k+6) 35 [bookD b bs, coD co] = .exc (.mk er []) := by
  refine callF_run (f := f35 er) (ρ := [sh (bookD b bs), sh (coD co)]) Z.h35 rfl rfl ?_
  have e1 := c29 (B := B) (fi := fi) (sub := sub) (fu := fu) (k := k) (b := b) (bs := bs) (co := co) Z.hf Z.h3 Z.h4 Z.h6 Z.h29 hl hr
  rw [h] at e1
  have e2 : callF B fi sub fu (k+5) 34 [bookD b bs, coD co] = .ok (.bl false) := by
    refine callF_run (f := f34) (ρ := [sh (bookD b bs), sh (coD co)]) Z.h34 rfl rfl ?_
    exact ret_b (ev_and_f (cl (xs := [bookD b bs, coD co]) rfl e1)) fun _ => rfl
  refine bindX (cons_x (rn_if_t (evNot (k := false) (cl (xs := [bookD b bs, coD co]) rfl e2)) (cons_x rfl)))
end PD.Core
end

section
set_option Elab.async false
set_option linter.all false
set_option maxRecDepth 100000
/-! PD, part 29: companies, as the laws grow them. -/
namespace PD.Core
open PySem PD PySem.W
variable {B : Nat → Option FnI} {fi : Nat → Str → Option Nat} {sub : Nat → Nat → Bool} {fu : Nat}
/-! all six tellings have one form -/
def sixG (b : List Nat) : Bool := (tris b.length).all fun t => (match t with
  | [p, q, r] => decide (form3 b q (bk b r) (bk b p) = form3 b p q r)
  | _ => false)
theorem backs_six : backs.all sixG = true := by decide +kernel
theorem six {b : List Nat} (hb : b ∈ backs) {p q r : Nat} (hp : p < b.length) (hq : q < b.length) (hr : r < b.length) : form3 b q (bk b r) (bk b p) = form3 b p q r := by
  have h := List.all_eq_true.mp (List.all_eq_true.mp backs_six b hb) _ (mem_tris hp hq hr)
  exact of_decide_eq_true h
/-- one more person -/
def fitR (b : List Nat) (bs co : List (List Nat)) (r : List Nat) : Prop := ∀ i j, i < j → j < r.length → letB b bs [r.getD i 0, kindP b co i j, r.getD j 0] = true
theorem getD_at {l : List Nat} {i : Nat} (h : i < l.length) : l.getD i 0 = l[i] := by
  rw [List.getD_eq_getElem?_getD, List.getElem?_eq_getElem h]; rfl
theorem cel_old {co : List (List Nat)} {r : List Nat} {x y : Nat} (hx : x < co.length) : cel (co ++ [r]) x y = cel co x y := by
  have e : (co ++ [r]).getD x [] = co.getD x [] := by rw [List.getD_eq_getElem?_getD, List.getD_eq_getElem?_getD, List.getElem?_append_left hx]
  unfold cel
  rw [e]
theorem cel_new {co : List (List Nat)} {r : List Nat} {y : Nat} : cel (co ++ [r]) co.length y = r.getD y 0 := by
  have e : (co ++ [r]).getD co.length [] = r := by rw [List.getD_eq_getElem?_getD, List.getElem?_append_right (Nat.le_refl _), Nat.sub_self]; rfl
  unfold cel
  rw [e]
theorem kind_old {b : List Nat} {co : List (List Nat)} {r : List Nat} {x y : Nat} (hx : x < co.length) (hy : y < co.length) : kindP b (co ++ [r]) x y = kindP b co x y := by
  unfold kindP
  rw [cel_old hx, cel_old hy]
theorem kind_new {b : List Nat} {co : List (List Nat)} {r : List Nat} {x : Nat} (hx : x < co.length) : kindP b (co ++ [r]) x co.length = bk b (r.getD x 0) := by
  unfold kindP
  rw [if_neg (by omega), cel_new]
theorem grow {b : List Nat} {bs co : List (List Nat)} {r : List Nat} (hm : b ∈ backs) (h : Good b bs co) (hl : r.length = co.length) (hr : ∀ x ∈ r, x < b.length) (hf : fitR b bs co r) : Good b bs (co ++ [r]) := by
  have hb := back_ok hm
  refine ⟨fun i s e => ?_, fun x y z h1 h2 h3 => ?_⟩
  · by_cases hi : i < co.length
    · rw [List.getElem?_append_left hi] at e
      exact h.rows i s e
    · rw [List.getElem?_append_right (by omega)] at e
      have : i - co.length = 0 := by
        have := (List.getElem?_eq_some_iff.mp e).1
        simp at this
        omega
      rw [this] at e
      cases e
      exact ⟨by omega, hr⟩
  · rw [List.length_append] at h3
    have h3 : z < co.length + 1 := h3
    unfold letC
    by_cases hz : z < co.length
    · rw [kind_old (by omega) (by omega), kind_old (by omega) hz, kind_old (by omega) hz]
      exact h.law x y z h1 h2 hz
    · have : z = co.length := by omega
      subst this
      rw [kind_old (by omega) h2, kind_new h2, kind_new (show x < co.length by omega)]
      have hx : x < r.length := by omega
      have hy : y < r.length := by omega
      have k := hf x y h1 hy
      unfold letB at k ⊢
      rw [show formR b [kindP b co x y, bk b (r.getD y 0), bk b (r.getD x 0)] = formR b [r.getD x 0, kindP b co x y, r.getD y 0] from six hm (by rw [getD_at hx]; exact hr _ (List.getElem_mem hx)) (kindP_lt hb h.rows (by omega) (by omega) (by omega)) (by rw [getD_at hy]; exact hr _ (List.getElem_mem hy))]
      exact k
/-! the law's functions -/
/-- pairs told: person, kind -/
def toldD (r : List Nat) (n : Nat) : List (List Nat) := (List.range n).map fun i => [i, r.getD i 0]
def letsP (b : List Nat) (bs co : List (List Nat)) (told : List (List Nat)) (x k : Nat) : Bool := told.all fun t => letB b bs [t.getD 1 0, kindP b co (t.getD 0 0) x, k]
theorem c26 (h11 : B 11 = some f11) (h12 : B 12 = some f12) (h16 : B 16 = some f16) (h25 : B 25 = some f25) (h26 : B 26 = some f26) {k : Nat} {b : List Nat} {bs co : List (List Nat)} {told : List (List Nat)} {x c : Nat} (hb : BackOk b) (h : Rows co b.length) (hx : x < co.length) (hc : c < b.length)
    (ht : ∀ t ∈ told, ∃ o v, t = [o, v] ∧ o < co.length ∧ o ≠ x ∧ v < b.length) : callF B fi sub fu (k+4) 26 [rD b, .tup (bs.map rD), coD co, .lst (told.map rD), nD x, nD c] = .ok (.bl (letsP b bs co told x c)) := by
  refine callF_run (f := f26) (ρ := [sh (rD b), sh (.tup (bs.map rD)), sh (coD co), sh (.lst (told.map rD)), sh (nD x), sh (nD c), none]) h26 rfl rfl ?_
  have loop : ∀ (l : List (List Nat)) (o : Option OD), (∀ t ∈ l, ∃ o v, t = [o, v] ∧ o < co.length ∧ o ≠ x ∧ v < b.length) →
      (letsP b bs co l x c = true ∧ ∃ o', loopF (fun t ρ => (bindT (.n 6) t ρ).bind fun ρ => rns (tb B fi sub fu (k+3)) (.cons (.ife (.not (.call 16 (.cons (.var 0) (.cons (.var 1) (.cons (.idx (.var 6) (.cI 1)) (.cons (.call 25 (.cons (.var 0) (.cons (.var 2) (.cons (.idx (.var 6) (.cI 0)) (.cons (.var 4) .nil))))) (.cons (.var 5) .nil))))))) (.cons (.ret (.cB false)) .nil) .nil) .nil) ρ) (l.map rD) [sh (rD b), sh (.tup (bs.map rD)), sh (coD co), sh (.lst (told.map rD)), sh (nD x), sh (nD c), o] = .ok (.nx [sh (rD b), sh (.tup (bs.map rD)), sh (coD co), sh (.lst (told.map rD)), sh (nD x), sh (nD c), o'])) ∨
      (letsP b bs co l x c = false ∧ ∃ ρ', loopF (fun t ρ => (bindT (.n 6) t ρ).bind fun ρ => rns (tb B fi sub fu (k+3)) (.cons (.ife (.not (.call 16 (.cons (.var 0) (.cons (.var 1) (.cons (.idx (.var 6) (.cI 1)) (.cons (.call 25 (.cons (.var 0) (.cons (.var 2) (.cons (.idx (.var 6) (.cI 0)) (.cons (.var 4) .nil))))) (.cons (.var 5) .nil))))))) (.cons (.ret (.cB false)) .nil) .nil) .nil) ρ) (l.map rD) [sh (rD b), sh (.tup (bs.map rD)), sh (coD co), sh (.lst (told.map rD)), sh (nD x), sh (nD c), o] = .ok (.rt (.bl false) ρ')) := fun l => by
    induction l with
    | nil => intro o _; exact .inl ⟨rfl, o, rfl⟩
    | cons t l ih =>
      intro o ht
      obtain ⟨p, v, rfl, h1, h2, h3⟩ := ht t List.mem_cons_self
      have hkd := kindP_lt hb h h1 hx h2
      have hg : ev (tb B fi sub fu (k+3)) (.call 16 (.cons (.var 0) (.cons (.var 1) (.cons (.idx (.var 6) (.cI 1)) (.cons (.call 25 (.cons (.var 0) (.cons (.var 2) (.cons (.idx (.var 6) (.cI 0)) (.cons (.var 4) .nil))))) (.cons (.var 5) .nil)))))) [sh (rD b), sh (.tup (bs.map rD)), sh (coD co), sh (.lst (told.map rD)), sh (nD x), sh (nD c), sh (rD [p, v])] = .ok (.bl (letB b bs [v, kindP b co p x, c])) :=
        cl (xs := [rD b, .tup (bs.map rD), nD v, nD (kindP b co p x), nD c]) (evsC rfl (evsC rfl (evsC rfl (evsC (cl (xs := [rD b, coD co, nD p, nD x]) rfl (c25 (k := k + 2) h25 h h1 hx h2)) (evs1 rfl))))) (c16 h11 h12 h16 h3 hkd hc)
      have hall : letsP b bs co ([p, v] :: l) x c = (letB b bs [v, kindP b co p x, c] && letsP b bs co l x c) := rfl
      cases hb2 : letB b bs [v, kindP b co p x, c] with
      | true =>
        rw [hb2] at hg hall
        have hn := loopF_c (f := fun t ρ => (bindT (.n 6) t ρ).bind fun ρ => rns (tb B fi sub fu (k+3)) (.cons (.ife (.not (.call 16 (.cons (.var 0) (.cons (.var 1) (.cons (.idx (.var 6) (.cI 1)) (.cons (.call 25 (.cons (.var 0) (.cons (.var 2) (.cons (.idx (.var 6) (.cI 0)) (.cons (.var 4) .nil))))) (.cons (.var 5) .nil))))))) (.cons (.ret (.cB false)) .nil) .nil) .nil) ρ) (x := rD [p, v]) (xs := l.map rD) (ρ := [sh (rD b), sh (.tup (bs.map rD)), sh (coD co), sh (.lst (told.map rD)), sh (nD x), sh (nD c), o]) (ρ1 := [sh (rD b), sh (.tup (bs.map rD)), sh (coD co), sh (.lst (told.map rD)), sh (nD x), sh (nD c), sh (rD [p, v])]) (bindO (x := [sh (rD b), sh (.tup (bs.map rD)), sh (coD co), sh (.lst (told.map rD)), sh (nD x), sh (nD c), sh (rD [p, v])]) rfl (stp (rn_if_n (evNot (k := true) hg)) rfl)) rfl
        rw [hall, Bool.true_and]
        rcases ih (sh (rD [p, v])) fun t hh => ht t (List.mem_cons_of_mem _ hh) with ⟨e1, o', e2⟩ | ⟨e1, ρ', e2⟩
        · exact .inl ⟨e1, o', hn.trans e2⟩
        · exact .inr ⟨e1, ρ', hn.trans e2⟩
      | false =>
        rw [hb2] at hg hall
        obtain ⟨ρ', h1⟩ := ret_l (T := tb B fi sub fu (k+3)) (ρ := [sh (rD b), sh (.tup (bs.map rD)), sh (coD co), sh (.lst (told.map rD)), sh (nD x), sh (nD c), sh (rD [p, v])]) (e := .cB false) (s := .nil) rfl
        refine .inr ⟨by rw [hall, Bool.false_and], ρ', loopF_rt (bindO (x := [sh (rD b), sh (.tup (bs.map rD)), sh (coD co), sh (.lst (told.map rD)), sh (nD x), sh (nD c), sh (rD [p, v])]) rfl (bindO (rn_if_t (evNot (k := false) hg) h1) rfl))⟩
  rcases loop told none ht with ⟨e1, o', e2⟩ | ⟨e1, ρ', e2⟩
  · rw [e1]
    refine stepB (rn_fr (xs := told.map rD) rfl rfl e2) ?_
    exact ret_b (d := .bl true) rfl fun _ => rfl
  · rw [e1]
    exact bindO (bindO (rn_fr (xs := told.map rD) rfl rfl e2) rfl) rfl
theorem toldD_succ (r : List Nat) (v p : Nat) (hl : r.length = p) : toldD (r ++ [v]) (p + 1) = toldD r p ++ [[p, v]] := by
  unfold toldD
  rw [List.range_succ, List.map_append]
  congr 1
  · refine List.map_congr_left fun i hi => ?_
    have hi := List.mem_range.mp hi
    rw [getD_at (by rw [List.length_append]; show i < r.length + 1; omega), getD_at (by omega), List.getElem_append_left (by omega)]
  · show [[p, (r ++ [v]).getD p 0]] = _
    rw [getD_at (by rw [List.length_append]; show p < r.length + 1; omega), List.getElem_append_right (by omega)]
    simp
theorem toldD_ok {r : List Nat} {n p : Nat} {co : List (List Nat)} (hl : r.length = p) (hr : ∀ x ∈ r, x < n) (hp : p < co.length) : ∀ t ∈ toldD r p, ∃ o v, t = [o, v] ∧ o < co.length ∧ o ≠ p ∧ v < n := fun t ht => by
  obtain ⟨i, hi, rfl⟩ := List.mem_map.mp ht
  have hi := List.mem_range.mp hi
  exact ⟨i, _, rfl, by omega, by omega, by rw [getD_at (by omega)]; exact hr _ (List.getElem_mem _)⟩
theorem letsP_told {b : List Nat} {bs co : List (List Nat)} {r : List Nat} {p c : Nat} (h : letsP b bs co (toldD r p) p c = true) : ∀ i, i < p → letB b bs [r.getD i 0, kindP b co i p, c] = true := fun i hi => by
  have := List.all_eq_true.mp h [i, r.getD i 0] (List.mem_map.mpr ⟨i, List.mem_range.mpr hi, rfl⟩)
  exact this
theorem fit_more {b : List Nat} {bs co : List (List Nat)} {r : List Nat} {p c : Nat} (hl : r.length = p) (h : fitR b bs co r) (h2 : letsP b bs co (toldD r p) p c = true) : fitR b bs co (r ++ [c]) := fun i j h1 hj => by
  rw [List.length_append] at hj
  have hj : j < r.length + 1 := hj
  have e1 : ∀ x, x < r.length → (r ++ [c]).getD x 0 = r.getD x 0 := fun x hx => by rw [getD_at (by rw [List.length_append]; show x < r.length + 1; omega), getD_at hx, List.getElem_append_left hx]
  by_cases e : j < r.length
  · rw [e1 i (by omega), e1 j e]
    exact h i j h1 e
  · have : j = p := by omega
    subst this
    have e2 : (r ++ [c]).getD j 0 = c := by
      rw [getD_at (by rw [List.length_append]; show j < r.length + 1; omega), List.getElem_append_right (by omega)]
      simp
    rw [e1 i (by omega), e2]
    exact letsP_told h2 i (by omega)
abbrev RV (b : List Nat) (bs co : List (List Nat)) (nm : List Nat) (a : Nat) (told : List (List Nat)) (o7 o8 o9 o10 : Option OD) : PD.Env := [sh (rD b), sh (.tup (bs.map rD)), sh (coD co), sh (lD nm), sh (nD a), some (.f (.ol (told.map rD))), sh (nD b.length), o7, o8, o9, o10, none]
def bK : Sts := (.cons (.asg (.n 10) (.bin .mod (.bin .add (.idx (.var 3) (.bin .mod (.bin .add (.var 4) (.var 7)) (.bi .len (.cons (.var 3) .nil)))) (.var 9)) (.var 6))) (.cons (.ife (.and (.not (.var 8)) (.call 26 (.cons (.var 0) (.cons (.var 1) (.cons (.var 2) (.cons (.var 5) (.cons (.var 7) (.cons (.var 10) .nil)))))))) (.cons (.app 5 (.tup (.cons (.var 7) (.cons (.var 10) .nil)))) (.cons (.asg (.n 8) (.cB true)) .nil)) .nil) .nil))
theorem ev_t2 {T : Tab} {ρ : PD.Env} {a b : Ex} {x y : Nat} (ha : ev T a ρ = .ok (nD x)) (hb : ev T b ρ = .ok (nD y)) : ev T (.tup (.cons a (.cons b .nil))) ρ = .ok (rD [x, y]) := bindO (evsC ha (evsC hb rfl)) rfl
structure LawB (B : Nat → Option FnI) : Prop where
  h11 : B 11 = some f11
  h12 : B 12 = some f12
  h16 : B 16 = some f16
  h25 : B 25 = some f25
  h26 : B 26 = some f26
  h27 : B 27 = some f27
/-- the choice of one kind -/
theorem stepK (Z : LawB B) {k : Nat} {b : List Nat} {bs co : List (List Nat)} {nm : List Nat} {a p : Nat} {r : List Nat} (hb : BackOk b) (h : Rows co b.length) (hn : nm.length = 30) (hp : p < co.length) (hco : co.length ≤ 1000) (hl : r.length = p) (hr : ∀ x ∈ r, x < b.length) (q9 q10 : Option OD) :
    ∃ ρ', loopF (fun x ρ => (bindT (.n 9) x ρ).bind fun ρ => rns (tb B fi sub fu (k+4)) bK ρ) (intsD 0 b.length) (RV b bs co nm a (toldD r p) (sh (nD p)) (sh (.bl false)) q9 q10) = .ok (.nx ρ') ∧
      ((∃ o9 o10, ρ' = RV b bs co nm a (toldD r p) (sh (nD p)) (sh (.bl false)) o9 o10) ∨ ∃ c o9 o10, c < b.length ∧ letsP b bs co (toldD r p) p c = true ∧ ρ' = RV b bs co nm a (toldD (r ++ [c]) (p + 1)) (sh (nD p)) (sh (.bl true)) o9 o10) := by
  have hpos := hb.pos
  have hle := hb.le
  refine loopN b.length (fun i ρ => (∃ o9 o10, ρ = RV b bs co nm a (toldD r p) (sh (nD p)) (sh (.bl false)) o9 o10) ∨ ∃ c o9 o10, c < b.length ∧ letsP b bs co (toldD r p) p c = true ∧ ρ = RV b bs co nm a (toldD (r ++ [c]) (p + 1)) (sh (nD p)) (sh (.bl true)) o9 o10) _ (fun i ρ hi hI => ?_) (.inl ⟨q9, q10, rfl⟩)
  obtain ⟨v, hv⟩ : ∃ v, nm[(a + p) % 30]? = some v := ⟨nm[(a + p) % 30]'(by have := Nat.mod_lt (a + p) (show 0 < 30 by decide); omega), List.getElem?_eq_getElem _⟩
  have hc : (v + i) % b.length < b.length := Nat.mod_lt _ hpos
  have hkd : ∀ (told : List (List Nat)) (o8 o10 : Option OD), ev (tb B fi sub fu (k+4)) (.bin .mod (.bin .add (.idx (.var 3) (.bin .mod (.bin .add (.var 4) (.var 7)) (.bi .len (.cons (.var 3) .nil)))) (.var 9)) (.var 6)) (RV b bs co nm a told (sh (nD p)) o8 (sh (nD i)) o10) = .ok (nD ((v + i) % b.length)) := fun told o8 o10 => by
    refine evn_mod (evn_add ((ev_idx (y := nD ((a + p) % 30)) rfl ?_).trans (idx_ln hv)) rfl) rfl hpos
    have := evn_mod (T := tb B fi sub fu (k+4)) (ρ := RV b bs co nm a told (sh (nD p)) o8 (sh (nD i)) o10) (e := .bin .add (.var 4) (.var 7)) (e' := .bi .len (.cons (.var 3) .nil)) (x := a + p) (y := nm.length) (evn_add rfl rfl) (ev_bi (evs1 (x := lD nm) rfl) (len_ln nm)) (by omega)
    rw [this, hn]
  rcases hI with ⟨o9, o10, rfl⟩ | ⟨c, o9, o10, h1, h2, rfl⟩
  · have hg : ev (tb B fi sub fu (k+4)) (.and (.not (.var 8)) (.call 26 (.cons (.var 0) (.cons (.var 1) (.cons (.var 2) (.cons (.var 5) (.cons (.var 7) (.cons (.var 10) .nil)))))))) (RV b bs co nm a (toldD r p) (sh (nD p)) (sh (.bl false)) (sh (nD i)) (sh (nD ((v + i) % b.length)))) = .ok (.bl (letsP b bs co (toldD r p) p ((v + i) % b.length))) :=
      ev_and_t (evNot (k := false) rfl) (cl (xs := [rD b, .tup (bs.map rD), coD co, .lst ((toldD r p).map rD), nD p, nD ((v + i) % b.length)]) rfl (c26 Z.h11 Z.h12 Z.h16 Z.h25 Z.h26 hb h hp hc (toldD_ok hl hr hp)))
    cases hz : letsP b bs co (toldD r p) p ((v + i) % b.length) with
    | false =>
      rw [hz] at hg
      refine ⟨RV b bs co nm a (toldD r p) (sh (nD p)) (sh (.bl false)) (sh (nD i)) (sh (nD ((v + i) % b.length))), bindO (x := RV b bs co nm a (toldD r p) (sh (nD p)) (sh (.bl false)) (sh (nD i)) o10) rfl ?_, .inl ⟨_, _, rfl⟩⟩
      exact stp (rn_asg (hkd _ _ _) rfl rfl rfl) (stp (rn_if_n hg) rfl)
    | true =>
      rw [hz] at hg
      refine ⟨RV b bs co nm a (toldD (r ++ [(v + i) % b.length]) (p + 1)) (sh (nD p)) (sh (.bl true)) (sh (nD i)) (sh (nD ((v + i) % b.length))), bindO (x := RV b bs co nm a (toldD r p) (sh (nD p)) (sh (.bl false)) (sh (nD i)) o10) rfl ?_, .inr ⟨_, _, _, hc, hz, rfl⟩⟩
      refine stp (rn_asg (hkd _ _ _) rfl rfl rfl) (stp (rn_if_t hg (stp (ρ' := RV b bs co nm a (toldD (r ++ [(v + i) % b.length]) (p + 1)) (sh (nD p)) (sh (.bl false)) (sh (nD i)) (sh (nD ((v + i) % b.length)))) ?_ (stp rfl rfl))) rfl)
      unfold RV
      rw [toldD_succ r _ p hl, List.map_append]
      refine rn_app rfl (ev_t2 (x := p) (y := (v + i) % b.length) rfl rfl) rfl ?_
      unfold toldD
      rw [List.length_map, List.length_map, List.length_range]
      exact line_of (by omega)
  · refine ⟨RV b bs co nm a (toldD (r ++ [c]) (p + 1)) (sh (nD p)) (sh (.bl true)) (sh (nD i)) (sh (nD ((v + i) % b.length))), bindO (x := RV b bs co nm a (toldD (r ++ [c]) (p + 1)) (sh (nD p)) (sh (.bl true)) (sh (nD i)) o10) rfl ?_, .inr ⟨c, _, _, h1, h2, rfl⟩⟩
    exact stp (rn_asg (hkd _ _ _) rfl rfl rfl) (stp (rn_if_n (ev_and_f (evNot (k := true) rfl))) rfl)
/-- a row for one more person, or none -/
theorem c27 (Z : LawB B) {k : Nat} {b : List Nat} {bs co : List (List Nat)} {nm : List Nat} {a : Nat} (hb : BackOk b) (h : Rows co b.length) (hn : nm.length = 30) (hco : co.length ≤ 1000) :
    callF B fi sub fu (k+5) 27 [rD b, .tup (bs.map rD), coD co, lD nm, nD a] = .ok .non ∧ 0 < co.length ∨ ∃ r : List Nat, r.length = co.length ∧ (∀ x ∈ r, x < b.length) ∧ fitR b bs co r ∧ callF B fi sub fu (k+5) 27 [rD b, .tup (bs.map rD), coD co, lD nm, nD a] = .ok (rD r) := by
  have hle := hb.le
  have start : ∀ X, (rns (tb B fi sub fu (k+4)) (.cons (.fr (.n 7) (.r1 (.bi .len (.cons (.var 2) .nil))) (.cons (.asg (.n 8) (.cB false)) (.cons (.fr (.n 9) (.r1 (.var 6)) bK) (.cons (.ife (.not (.var 8)) (.cons (.ret .cN) .nil) .nil) .nil)))) (.cons (.ret (.bi .tupleOf (.cons (.lc [11] (.n 11) (.e (.var 5)) .nil (.idx (.var 11) (.cI 1))) .nil))) .nil)) (RV b bs co nm a [] none none none none)).bind f27.fin = X → callF B fi sub fu (k+5) 27 [rD b, .tup (bs.map rD), coD co, lD nm, nD a] = X := fun X hX => by
    refine callF_run (f := f27) (ρ := [sh (rD b), sh (.tup (bs.map rD)), sh (coD co), sh (lD nm), sh (nD a), none, none, none, none, none, none, none]) Z.h27 rfl rfl ?_
    refine stepB (ρ' := [sh (rD b), sh (.tup (bs.map rD)), sh (coD co), sh (lD nm), sh (nD a), some (.f (.ol [])), none, none, none, none, none, none]) rfl ?_
    exact stepB (ρ' := RV b bs co nm a [] none none none none) (rn_asg (ev_bi (evs1 (x := rD b) rfl) (len_r b)) rfl rfl rfl) hX
  have lp := loopG (f := fun x ρ => (bindT (.n 7) x ρ).bind fun ρ => rns (tb B fi sub fu (k+4)) (.cons (.asg (.n 8) (.cB false)) (.cons (.fr (.n 9) (.r1 (.var 6)) bK) (.cons (.ife (.not (.var 8)) (.cons (.ret .cN) .nil) .nil) .nil))) ρ) (Pd := fun d => d = .non ∧ 0 < co.length) co.length
    (fun p ρ => ∃ r o7 o8 o9 o10, r.length = p ∧ (∀ x ∈ r, x < b.length) ∧ fitR b bs co r ∧ ρ = RV b bs co nm a (toldD r p) o7 o8 o9 o10) (RV b bs co nm a [] none none none none) (fun p ρ hp ⟨r, o7, o8, o9, o10, hl, hr, hf, e⟩ => by
      subst e
      obtain ⟨ρ', h1, h2⟩ := stepK (fi := fi) (sub := sub) (fu := fu) (k := k) (bs := bs) (a := a) Z hb h hn hp hco hl hr o9 o10
      have hst : ∀ X, rns (tb B fi sub fu (k+4)) (.cons (.ife (.not (.var 8)) (.cons (.ret .cN) .nil) .nil) .nil) ρ' = X → (bindT (.n 7) (nD p) (RV b bs co nm a (toldD r p) o7 o8 o9 o10)).bind (fun ρ => rns (tb B fi sub fu (k+4)) (.cons (.asg (.n 8) (.cB false)) (.cons (.fr (.n 9) (.r1 (.var 6)) bK) (.cons (.ife (.not (.var 8)) (.cons (.ret .cN) .nil) .nil) .nil))) ρ) = X := fun X hX => by
        refine bindO (x := RV b bs co nm a (toldD r p) (sh (nD p)) o8 o9 o10) rfl ?_
        refine stp (ρ' := RV b bs co nm a (toldD r p) (sh (nD p)) (sh (.bl false)) o9 o10) rfl ?_
        refine stp (rn_fr (evIt_n (n := b.length) rfl (by omega)) rfl (by rw [← ints_r]; exact h1)) hX
      rcases h2 with ⟨p9, p10, rfl⟩ | ⟨c, p9, p10, g1, g2, rfl⟩
      · obtain ⟨ρ', h3⟩ := ret_l (T := tb B fi sub fu (k+4)) (ρ := RV b bs co nm a (toldD r p) (sh (nD p)) (sh (.bl false)) p9 p10) (e := .cN) (s := .nil) rfl
        exact .inr ⟨.non, ρ', hst _ (bindO (rn_if_t (evNot (k := false) rfl) h3) rfl), rfl, by omega⟩
      · refine .inl ⟨_, hst _ (stp (rn_if_n (evNot (k := true) rfl)) rfl), r ++ [c], _, _, _, _, by rw [List.length_append, hl]; rfl, fun x hx => ?_, fit_more hl hf g2, rfl⟩
        rcases List.mem_append.mp hx with hx | hx
        · exact hr x hx
        · rw [List.mem_singleton.mp hx]; exact g1) ⟨[], none, none, none, none, rfl, fun _ z => absurd z (by simp), fun i j _ z => absurd z (Nat.not_lt_zero _), rfl⟩
  rcases lp with ⟨ρ', h1, r, o7, o8, o9, o10, hl, hr, hf, rfl⟩ | ⟨d, ρ', h1, rfl, hpos⟩
  · refine .inr ⟨r, hl, hr, hf, start _ (stepB (rn_fr (evIt_n (ev_bi (evs1 (x := coD co) rfl) (len_co co)) (by omega)) rfl h1) ?_)⟩
    refine ret_b (d := rD r) (ev_bi (evs1 (x := lD r) ?_) rfl) fun _ => rfl
    have := ev_lcA (T := tb B fi sub fu (k+4)) (ρ := RV b bs co nm a (toldD r co.length) o7 o8 o9 o10) (own := [11]) (tg := .n 11) (it := .e (.var 5)) (e := .idx (.var 11) (.cI 1)) (l := toldD r co.length) (g := rD) (h := fun t => nD (t.getD 1 0)) rfl (by unfold toldD; rw [List.length_map, List.length_range]; omega) fun t ht => by
      obtain ⟨i, hi, rfl⟩ := List.mem_map.mp ht
      refine ⟨[sh (rD b), sh (.tup (bs.map rD)), sh (coD co), sh (lD nm), sh (nD a), sh (.lst ((toldD r co.length).map rD)), sh (nD b.length), o7, o8, o9, o10, sh (rD [i, r.getD i 0])], rfl, ?_⟩
      exact (ev_idx (x := rD [i, r.getD i 0]) (y := nD 1) rfl rfl).trans (idx_r rfl)
    rw [this]
    unfold toldD
    rw [List.map_map]
    have : (List.range co.length).map ((fun t => nD (t.getD 1 0)) ∘ fun i => [i, r.getD i 0]) = r.map nD := by
      refine List.ext_getElem (by rw [List.length_map, List.length_map, List.length_range, hl]) fun i h1 h2 => ?_
      rw [List.getElem_map, List.getElem_map, List.getElem_range]
      rw [List.length_map] at h2
      show nD (r.getD i 0) = _
      rw [getD_at h2]
    rw [this]
  · exact .inl ⟨start _ (bindO (bindO (rn_fr (evIt_n (ev_bi (evs1 (x := coD co) rfl) (len_co co)) (by omega)) rfl h1) rfl) rfl), hpos⟩
/-- a company grown, as far as it goes -/
abbrev GV (b : List Nat) (bs : List (List Nat)) (nm : List Nat) (m : Nat) (co : List (List Nat)) (o5 o6 : Option OD) : PD.Env := [sh (rD b), sh (.tup (bs.map rD)), sh (lD nm), sh (nD m), sh (coD co), o5, o6]
theorem c28 (Z : LawB B) (h28 : B 28 = some f28) {k : Nat} {b : List Nat} {bs : List (List Nat)} {nm : List Nat} {m : Nat} (hm : b ∈ backs) (hn : nm.length = 30) (hmm : m ≤ 100) :
    ∃ co, Good b bs co ∧ co.length ≤ m ∧ callF B fi sub fu (k+6) 28 [rD b, .tup (bs.map rD), lD nm, nD m] = .ok (coD co) := by
  have hb := back_ok hm
  have lp := loopG (f := fun x ρ => (bindT (.n 5) x ρ).bind fun ρ => rns (tb B fi sub fu (k+5)) (.cons (.asg (.n 6) (.call 27 (.cons (.var 0) (.cons (.var 1) (.cons (.var 4) (.cons (.var 2) (.cons (.bin .mul (.cI 3) (.var 5)) .nil))))))) (.cons (.ife (.isN (.var 6)) (.cons (.ret (.var 4)) .nil) .nil) (.cons (.asg (.n 4) (.bin .add (.var 4) (.tup (.cons (.var 6) .nil)))) .nil))) ρ) (Pd := fun d => ∃ co, d = coD co ∧ Good b bs co ∧ co.length ≤ m) m
    (fun i ρ => ∃ co o5 o6, co.length = i ∧ Good b bs co ∧ ρ = GV b bs nm m co o5 o6) (GV b bs nm m [] none none) (fun i ρ hi ⟨co, o5, o6, hl, hg, e⟩ => by
      subst e
      have hc := c27 (fi := fi) (sub := sub) (fu := fu) (k := k) (bs := bs) (co := co) (nm := nm) (a := 3 * i) Z hb hg.rows hn (by omega)
      have hcall : ∀ X, callF B fi sub fu (k+5) 27 [rD b, .tup (bs.map rD), coD co, lD nm, nD (3 * i)] = X → ev (tb B fi sub fu (k+5)) (.call 27 (.cons (.var 0) (.cons (.var 1) (.cons (.var 4) (.cons (.var 2) (.cons (.bin .mul (.cI 3) (.var 5)) .nil)))))) (GV b bs nm m co (sh (nD i)) o6) = X := fun X hX =>
        cl (xs := [rD b, .tup (bs.map rD), coD co, lD nm, nD (3 * i)]) (evsC rfl (evsC rfl (evsC rfl (evsC rfl (evs1 (evn_mul (x := 3) (y := i) rfl rfl (by decide))))))) hX
      rcases hc with ⟨hc, _⟩ | ⟨r, g1, g2, g3, hc⟩
      · obtain ⟨ρ', h3⟩ := ret_l (T := tb B fi sub fu (k+5)) (ρ := GV b bs nm m co (sh (nD i)) (sh .non)) (e := .var 4) (d := coD co) (s := .nil) rfl
        refine .inr ⟨coD co, ρ', bindO (x := GV b bs nm m co (sh (nD i)) o6) rfl (stp (rn_asg (hcall _ hc) rfl rfl rfl) (bindO (rn_if_t rfl h3) rfl)), co, rfl, hg, by omega⟩
      · refine .inl ⟨GV b bs nm m (co ++ [r]) (sh (nD i)) (sh (rD r)), bindO (x := GV b bs nm m co (sh (nD i)) o6) rfl (stp (ρ' := GV b bs nm m co (sh (nD i)) (sh (rD r))) (rn_asg (hcall _ hc) rfl rfl rfl) (stp (rn_if_n rfl) (stp ?_ rfl))), co ++ [r], _, _, by rw [List.length_append, hl]; rfl, grow hm hg g1 g2 g3, rfl⟩
        have e1 : binD .add (coD co) (.tup [rD r]) = .ok (coD (co ++ [r])) := by
          show guardR (decide ((co.map rD).length + 1 ≤ line)) (.ok (D.tup (co.map rD ++ [rD r]))) = _
          rw [guardR_t (decide_eq_true (by rw [List.length_map]; exact line_of (by omega)))]
          show R.ok (D.tup (co.map rD ++ [rD r])) = R.ok (D.tup ((co ++ [r]).map rD))
          rw [List.map_append]; rfl
        exact rn_asg (x := coD (co ++ [r])) ((ev_bin (x := coD co) (y := .tup [rD r]) rfl rfl).trans e1) rfl rfl rfl) ⟨[], none, none, rfl, ⟨fun i r e => by simp at e, fun x y z _ _ h => absurd h (Nat.not_lt_zero _)⟩, rfl⟩
  have start : ∀ X, (rns (tb B fi sub fu (k+5)) (.cons (.fr (.n 5) (.r1 (.var 3)) (.cons (.asg (.n 6) (.call 27 (.cons (.var 0) (.cons (.var 1) (.cons (.var 4) (.cons (.var 2) (.cons (.bin .mul (.cI 3) (.var 5)) .nil))))))) (.cons (.ife (.isN (.var 6)) (.cons (.ret (.var 4)) .nil) .nil) (.cons (.asg (.n 4) (.bin .add (.var 4) (.tup (.cons (.var 6) .nil)))) .nil)))) (.cons (.ret (.var 4)) .nil)) (GV b bs nm m [] none none)).bind f28.fin = X → callF B fi sub fu (k+6) 28 [rD b, .tup (bs.map rD), lD nm, nD m] = X := fun X hX => by
    refine callF_run (f := f28) (ρ := [sh (rD b), sh (.tup (bs.map rD)), sh (lD nm), sh (nD m), none, none, none]) h28 rfl rfl ?_
    exact stepB (ρ' := GV b bs nm m [] none none) rfl hX
  rcases lp with ⟨ρ', h1, co, o5, o6, hl, hg, rfl⟩ | ⟨d, ρ', h1, co, rfl, hg, hl⟩
  · refine ⟨co, hg, by omega, start _ (stepB (rn_fr (evIt_n (n := m) rfl (by omega)) rfl h1) ?_)⟩
    exact ret_b rfl fun _ => rfl
  · exact ⟨co, hg, hl, start _ (bindO (bindO (rn_fr (evIt_n (n := m) rfl (by omega)) rfl h1) rfl) rfl)⟩
end PD.Core
end

section
set_option Elab.async false
set_option linter.all false
set_option maxRecDepth 100000
/-! PD, part 30: a script's numbers from any cell; a knit book as the laws draw it. -/
namespace PD.Core
open PySem PD PySem.W
variable {B : Nat → Option FnI} {fi : Nat → Str → Option Nat} {sub : Nat → Nat → Bool} {fu : Nat}
abbrev NVa (ss : List D) (a : Nat) (c : Nat) (g : Bool) (nm : List Nat) (o : Option OD) : PD.Env := [sh (.scr ss), sh (.int (a : Int)), sh (.int 30), sh (.int (c : Int)), sh (.bl g), some (.f (.ol (nm.map nD))), o]
theorem c1a (h0 : B 0 = some f0) (hB1 : B 1 = some f1) {k : Nat} (ns : List Int) (a : Nat) : ∃ nm : List Nat, nm.length = 30 ∧ callF B fi sub fu (k+2) 1 [.scr (ns.map .int), .int (a : Int), .int 30] = .ok (.lst (nm.map nD)) := by
  obtain ⟨v0, hv0⟩ := c0 (B := B) (fi := fi) (sub := sub) (fu := fu) h0 (k := k) ns a
  obtain ⟨v1, hv1⟩ := c0 (B := B) (fi := fi) (sub := sub) (fu := fu) h0 (k := k) ns (a + 1)
  obtain ⟨z0, hz0⟩ := abs_nat v0
  obtain ⟨z1, hz1⟩ := abs_nat v1
  have w0 : biD .abs [.int v0] = .ok (.int (z0 : Int)) := by rw [← hz0]; rfl
  have w1 : biD .abs [.int v1] = .ok (.int (z1 : Int)) := by rw [← hz1]; rfl
  obtain ⟨ρ', h1, c, g, nm, hl, he⟩ := loopF_inv (f := fun x ρ => (bindT (.n 6) x ρ).bind fun ρ => rns (tb B fi sub fu (k+1)) (.cons (.ife (.and (.var 4) (.cmp .eq (.var 3) (.cI 0))) (.cons (.asg (.n 4) (.cB false)) (.cons (.asg (.n 3) (.bin .add (.bi .abs (.cons (.call 0 (.cons (.var 0) (.cons (.bin .add (.var 1) (.cI 1)) .nil))) .nil)) (.var 6))) .nil)) .nil) (.cons (.ife (.var 4) (.cons (.app 5 (.bin .mod (.bi .intOf (.cons (.var 3) .nil)) (.cI 840))) (.cons (.asg (.n 3) (.bin .fdiv (.var 3) (.cI 840))) .nil)) (.cons (.asg (.n 3) (.bin .mod (.bi .intOf (.cons (.bin .add (.bin .add (.bin .mul (.var 3) (.cI 48271)) (.bin .mul (.cI 7) (.var 6))) (.cI 11)) .nil)) (.cI 2147483647))) (.cons (.app 5 (.bin .fdiv (.var 3) (.cI 13))) .nil))) .nil)) ρ)
    30 0 (fun i ρ => ∃ (c : Nat) (g : Bool) (nm : List Nat), nm.length = i ∧ ρ = NVa (ns.map .int) a c g nm (lv none 0 i)) (NVa (ns.map .int) a z0 (!decide ((z0 : Int) < 1000000000000000000)) [] none) (fun i ρ hi hI => by
      obtain ⟨c, g, nm, hl, he⟩ := hI
      subst he
      have s1 : ∃ (c' : Nat) (g' : Bool), rn (tb B fi sub fu (k+1)) (.ife (.and (.var 4) (.cmp .eq (.var 3) (.cI 0))) (.cons (.asg (.n 4) (.cB false)) (.cons (.asg (.n 3) (.bin .add (.bi .abs (.cons (.call 0 (.cons (.var 0) (.cons (.bin .add (.var 1) (.cI 1)) .nil))) .nil)) (.var 6))) .nil)) .nil) (NVa (ns.map .int) a c g nm (sh (.int (0 + i)))) = .ok (.nx (NVa (ns.map .int) a c' g' nm (sh (.int (0 + i))))) := by
        cases g with
        | false => exact ⟨c, false, rn_if_n (ev_and_f rfl)⟩
        | true =>
          cases hc : decide ((c : Int) = 0) with
          | false => exact ⟨c, true, rn_if_n (ev_and_t rfl ((ev_cmp rfl rfl).trans ((eq_i _ _).trans (by rw [hc]))))⟩
          | true =>
            refine ⟨z1 + i, false, rn_if_t (ev_and_t rfl ((ev_cmp rfl rfl).trans ((eq_i _ _).trans (by rw [hc])))) (stp (ρ' := NVa (ns.map .int) a c false nm (sh (.int (0 + i)))) rfl (stp (ρ' := NVa (ns.map .int) a (z1 + i) false nm (sh (.int (0 + i)))) ?_ rfl))⟩
            rw [show NVa (ns.map .int) a (z1 + i) false nm (sh (.int (0 + i))) = (NVa (ns.map .int) a c false nm (sh (.int (0 + i)))).set 3 (sh (.int ((z1 : Int) + (0 + (i : Int))))) by
              show [_, _, _, sh (.int ((z1 + i : Nat) : Int)), _, _, _] = [_, _, _, sh (.int ((z1 : Int) + (0 + (i : Int)))), _, _, _]
              rw [show ((z1 + i : Nat) : Int) = (z1 : Int) + (0 + (i : Int)) by omega]]
            exact rn_asg (ev_add (ev_bi (evs1 (cl (xs := [.scr (ns.map .int), .int ((a + 1 : Nat) : Int)]) rfl hv1)) w1) rfl) rfl rfl rfl
      obtain ⟨c', g', s1⟩ := s1
      have hmap : ∀ v : Nat, (nm.map nD) ++ [D.int (v : Int)] = (nm ++ [v]).map nD := fun v => by rw [List.map_append]; rfl
      have hlen : (nm.map nD).length + 1 ≤ line := by
        rw [List.length_map, hl]
        exact Nat.le_trans (show i + 1 ≤ 30 by omega) (by decide)
      have s2 : ∃ (c'' v : Nat), rn (tb B fi sub fu (k+1)) (.ife (.var 4) (.cons (.app 5 (.bin .mod (.bi .intOf (.cons (.var 3) .nil)) (.cI 840))) (.cons (.asg (.n 3) (.bin .fdiv (.var 3) (.cI 840))) .nil)) (.cons (.asg (.n 3) (.bin .mod (.bi .intOf (.cons (.bin .add (.bin .add (.bin .mul (.var 3) (.cI 48271)) (.bin .mul (.cI 7) (.var 6))) (.cI 11)) .nil)) (.cI 2147483647))) (.cons (.app 5 (.bin .fdiv (.var 3) (.cI 13))) .nil))) (NVa (ns.map .int) a c' g' nm (sh (.int (0 + i)))) = .ok (.nx (NVa (ns.map .int) a c'' g' (nm ++ [v]) (sh (.int (0 + i))))) := by
        cases g' with
        | true =>
          refine ⟨c' / 840, c' % 840, rn_if_t rfl (stp (ρ' := NVa (ns.map .int) a c' true (nm ++ [c' % 840]) (sh (.int (0 + i)))) ?_ (stp (ρ' := NVa (ns.map .int) a (c' / 840) true (nm ++ [c' % 840]) (sh (.int (0 + i)))) ?_ rfl))⟩
          · unfold NVa
            rw [← hmap]
            exact rn_app rfl ((ev_bin (ev_bi (evs1 rfl) rfl) rfl).trans (mod_i (by decide))) rfl hlen
          · exact rn_asg ((ev_bin rfl rfl).trans (fdiv_i (by decide) (by decide))) rfl rfl rfl
        | false =>
          let w : Nat := (c' * 48271 + 7 * i + 11) % 2147483647
          refine ⟨w, w / 13, rn_if_f rfl (stp (ρ' := NVa (ns.map .int) a w false nm (sh (.int (0 + i)))) ?_ (stp (ρ' := NVa (ns.map .int) a w false (nm ++ [w / 13]) (sh (.int (0 + i)))) ?_ rfl))⟩
          · have hw : ((c' : Int) * 48271 + 7 * (0 + (i : Int)) + 11) % 2147483647 = (w : Int) := by
              show _ = (((c' * 48271 + 7 * i + 11) % 2147483647 : Nat) : Int)
              omega
            rw [show NVa (ns.map .int) a w false nm (sh (.int (0 + i))) = (NVa (ns.map .int) a c' false nm (sh (.int (0 + i)))).set 3 (sh (.int (((c' : Int) * 48271 + 7 * (0 + (i : Int)) + 11) % 2147483647))) by
              rw [hw]; rfl]
            exact rn_asg (ev_mod (ev_bi (evs1 (ev_add (ev_add (ev_mul rfl rfl (mulOk_r (by decide))) (ev_mul rfl rfl (mulOk_l (by decide)))) rfl)) rfl) rfl (by decide)) rfl rfl rfl
          · unfold NVa
            rw [← hmap]
            exact rn_app rfl ((ev_bin rfl rfl).trans (fdiv_i (by decide) (by decide))) rfl hlen
      obtain ⟨c'', v, s2⟩ := s2
      refine ⟨_, bindO (x := NVa (ns.map .int) a c g nm (sh (.int (0 + i)))) rfl (stp s1 (stp s2 rfl)), c'', g', nm ++ [v], by rw [List.length_append, hl]; rfl, rfl⟩) ⟨z0, _, [], rfl, rfl⟩
  subst he
  refine ⟨nm, hl, ?_⟩
  refine callF_run (f := f1) (ρ := [sh (.scr (ns.map .int)), sh (.int (a : Int)), sh (.int 30), none, none, none, none]) hB1 rfl rfl ?_
  refine stepB (ρ' := [sh (.scr (ns.map .int)), sh (.int (a : Int)), sh (.int 30), sh (.int z0), none, none, none]) (rn_asg (ev_bi (evs1 (cl (xs := [.scr (ns.map .int), .int (a : Int)]) rfl hv0)) w0) rfl rfl rfl) ?_
  refine stepB (ρ' := [sh (.scr (ns.map .int)), sh (.int (a : Int)), sh (.int 30), sh (.int z0), sh (.bl (!decide ((z0 : Int) < 1000000000000000000))), none, none]) (rn_asg ((ev_cmp (y := .int 1000000000000000000) rfl rfl).trans (ge_i _ _)) rfl rfl rfl) ?_
  refine stepB (ρ' := NVa (ns.map .int) a z0 (!decide ((z0 : Int) < 1000000000000000000)) [] none) rfl ?_
  refine stepB (rn_for (i := 30) rfl rfl h1) ?_
  exact ret_b rfl fun _ => rfl

theorem rn_asgF {T : Tab} {e : Ex} {x : D} {ρ : PD.Env} {i : Nat} (he : ev T e ρ = .ok x) (hz : froz x = true) (hf : ownO (frs e) x = .sh x) (hi : decide (i < ρ.length) = true) : rn T (.asg (.n i) e) ρ = .ok (.nx (ρ.set i (sh x))) := by
  refine bindO he ?_
  have : keepN (frs e) ρ (roots e) x = ρ := by
    unfold keepN keepRs
    split
    · exact absurd hz Bool.false_ne_true
    · unfold keepR
      rw [hz]
  rw [this, hf]
  exact guardR_t hi
theorem nni_t (a : Nat) (l : List Nat) : cmpD .notin (nD a) (rD l) = .ok (.bl (!decide (a ∈ l))) := by
  have := deep_n a
  rw [cmpD, any_n]; exact guardR_t (by rw [plains_n, decide_eq_true (by omega)]; rfl)
theorem leq (a b : List Nat) : cmpD .eq (lD a) (lD b) = .ok (.bl (decide (a = b))) := by
  have h1 : eqD (lD a) (lD b) = decide (a = b) := by
    show PyData.eqv (toP (lD a)) (toP (lD b)) = _
    rw [toP_l, toP_l, PyData.eqv, eqv_ints]
  have h2 : deep (lD a) ≤ 2 := by
    show PyData.depth (toP (lD a)) ≤ 2
    rw [toP_l, PyData.depth]
    have := depth_n a
    omega
  rw [cmpD, h1]
  refine guardR_t ?_
  unfold eqOk
  rw [show plain (lD a) = true from plains_n a, show plain (lD b) = true from plains_n b, decide_eq_true (by omega)]; rfl
def knownL : List (List Nat × List (List Nat)) := [([1, 0], [[0, 0, 1]]), ([0, 1], [[0, 0, 1]]), ([0, 1], [[0, 0, 0], [0, 0, 1]]), ([0], [[0, 0, 0]]), ([0, 1], [[0, 0, 1], [1, 1, 1]]), ([0, 1], [[0, 0, 0], [0, 0, 1], [1, 1, 1]]), ([0, 1], [[0, 0, 0]])]
abbrev pairD (p : List Nat × List (List Nat)) : D := .tup [rD p.1, .tup (p.2.map rD)]
theorem known_ok : (knownL.all fun p => decide (p.1 ∈ backs) && p.2.isSublist (formsOf p.1)) = true := by decide +kernel
theorem known_at : knownL.length = 7 := rfl
/-- what the drawn knit book is -/
def Knt (b : List Nat) (bs : List (List Nat)) : Prop := (b, bs) ∈ knownL ∨ ∃ z, z < b.length ∧ (bs = [] ∨ bk b z = z) ∧ ∀ t ∈ bs, z ∉ t
theorem c23 (h23 : B 23 = some f23) {k v : Nat} : ∃ b bs, b ∈ backs ∧ List.Sublist bs (formsOf b) ∧ (b, bs) ∈ knownL ∧ callF B fi sub fu (k+1) 23 [nD v] = .ok (.tup [rD b, .tup (bs.map rD)]) := by
  have hv : v % 7 < knownL.length := by rw [known_at]; exact Nat.mod_lt _ (by decide)
  obtain ⟨p, hp⟩ : ∃ p, knownL[v % 7]? = some p := ⟨_, List.getElem?_eq_getElem hv⟩
  have h := List.all_eq_true.mp known_ok p (List.mem_of_getElem? hp)
  rw [Bool.and_eq_true, decide_eq_true_eq, List.isSublist_iff_sublist] at h
  refine ⟨p.1, p.2, h.1, h.2, List.mem_of_getElem? hp, ?_⟩
  refine callF_run (f := f23) (ρ := [sh (nD v), none]) h23 rfl rfl ?_
  refine stepB (ρ' := [sh (nD v), some (.f (.ol ((knownL.take 4).map pairD)))]) (by kernel_rfl) ?_
  refine stepB (ρ' := [sh (nD v), some (.f (.ol ((knownL.take 6).map pairD)))]) (by kernel_rfl) ?_
  refine stepB (ρ' := [sh (nD v), some (.f (.ol (knownL.map pairD)))]) (by kernel_rfl) ?_
  exact ret_b ((ev_idx (x := .lst (knownL.map pairD)) (y := nD (v % 7)) rfl (evn_mod (y := 7) rfl rfl (by omega))).trans (idx_l (by rw [List.getElem?_map, hp]; rfl))) fun _ => rfl
abbrev KV (nm b own : List Nat) (kp : Nat) (bs : List (List Nat)) (o : Option OD) : PD.Env := [sh (lD nm), sh (rD b), some (.f (.ol (own.map nD))), sh (nD kp), some (.f (.ol (bs.map rD))), sh (.lst ((formsOf b).map rD)), o, none]
theorem c24m (h10 : B 10 = some f10) (h11 : B 11 = some f11) (h12 : B 12 = some f12) (h13 : B 13 = some f13) (h23 : B 23 = some f23) (h24 : B 24 = some f24) {k : Nat} {nm : List Nat} (hl : nm.length = 30) :
    ∃ b bs, b ∈ backs ∧ List.Sublist bs (formsOf b) ∧ Knt b bs ∧ ((b, bs) ∈ knownL ∨ backs[nm.getD 0 0 % 17]? = some b) ∧ callF B fi sub fu (k+4) 24 [lD nm] = .ok (.tup [rD b, .tup (bs.map rD)]) := by
  have hnm : ∀ i, i < 30 → ∃ v, nm[i]? = some v := fun i hi => ⟨nm[i]'(by omega), List.getElem?_eq_getElem _⟩
  obtain ⟨v0, hv0⟩ := hnm 0 (by omega)
  obtain ⟨v1, hv1⟩ := hnm 1 (by omega)
  obtain ⟨v2, hv2⟩ := hnm 2 (by omega)
  have h17 : v0 % 17 < backs.length := Nat.mod_lt _ (by decide)
  obtain ⟨b, hbi⟩ : ∃ b, backs[v0 % 17]? = some b := ⟨_, List.getElem?_eq_getElem h17⟩
  have hbm : b ∈ backs := List.mem_of_getElem? hbi
  have hbj : backs[nm.getD 0 0 % 17]? = some b := by rw [List.getD_eq_getElem?_getD, hv0]; exact hbi
  have hb := back_ok hbm
  have hle := hb.le
  have hfl := hb.fl
  have kz : Knt b [] := .inr ⟨0, hb.pos, .inl rfl, fun t ht => absurd ht (fun z => nomatch z)⟩
  obtain ⟨bk', bsk, hk1, hk2, hk4, hk3⟩ := c23 (B := B) (fi := fi) (sub := sub) (fu := fu) (k := k+2) (v := v0) h23
  have start : ∀ X, (rns (tb B fi sub fu (k+3)) (match f24.body with
      | .cons _ r => r
      | .nil => .nil) [sh (lD nm), sh (rD b), none, none, none, none, none, none]).bind f24.fin = X → callF B fi sub fu (k+4) 24 [lD nm] = X := fun X hX => by
    refine callF_run (f := f24) (ρ := [sh (lD nm), none, none, none, none, none, none, none]) h24 rfl rfl ?_
    exact stepB (ρ' := [sh (lD nm), sh (rD b), none, none, none, none, none, none]) (rn_asg ((ev_idx (x := .lst (backs.map rD)) (y := nD (v0 % 17)) (cl (xs := []) rfl (c10 h10)) (evn_mod (y := 17) ((ev_idx (x := lD nm) (y := nD 0) rfl rfl).trans (idx_ln hv0)) rfl (by omega))).trans (idx_l (by rw [List.getElem?_map, hbi]; rfl))) rfl rfl rfl) hX
  have t5 : ∀ c : Nat, ev (tb B fi sub fu (k+3)) (.cmp .eq (.bin .mod (.idx (.var 0) (.cI 1)) (.cI 5)) (.cI c)) [sh (lD nm), sh (rD b), none, none, none, none, none, none] = .ok (.bl (decide (v1 % 5 = c))) := fun c =>
    evn_eq (evn_mod (y := 5) ((ev_idx (x := lD nm) (y := nD 1) rfl rfl).trans (idx_ln hv1)) rfl (by omega)) rfl
  have e0 : ∀ ρ : PD.Env, slotE ρ 1 = sh (rD b) → ev (tb B fi sub fu (k+3)) (.tup (.cons (.var 1) (.cons (.tup .nil) .nil))) ρ = .ok (.tup [rD b, .tup (([] : List (List Nat)).map rD)]) := fun ρ hρ =>
    bindO (evsC (x := rD b) (by show varR ρ 1 = _; unfold varR; rw [hρ]; rfl) rfl) rfl
  by_cases hz : v1 % 5 = 0
  · have t := t5 0
    rw [decide_eq_true hz] at t
    refine ⟨bk', bsk, hk1, hk2, .inl hk4, .inl hk4, start _ ?_⟩
    obtain ⟨ρ', h1⟩ := ret_l (T := tb B fi sub fu (k+3)) (ρ := [sh (lD nm), sh (rD b), none, none, none, none, none, none]) (e := .call 23 (.cons (.idx (.var 0) (.cI 0)) .nil)) (s := .nil) (cl (xs := [nD v0]) (evs1 ((ev_idx (x := lD nm) (y := nD 0) rfl rfl).trans (idx_ln hv0))) hk3)
    exact bindO (bindO (rn_if_t t h1) rfl) rfl
  have ta := t5 0
  rw [decide_eq_false hz] at ta
  by_cases hz1 : v1 % 5 = 1
  · have t := t5 1
    rw [decide_eq_true hz1] at t
    refine ⟨b, [], hbm, List.nil_sublist _, kz, .inr hbj, start _ (stepB (rn_if_n ta) ?_)⟩
    obtain ⟨ρ', h1⟩ := ret_l (T := tb B fi sub fu (k+3)) (s := .nil) (e0 [sh (lD nm), sh (rD b), none, none, none, none, none, none] rfl)
    exact bindO (bindO (rn_if_t t h1) rfl) rfl
  have tb1 := t5 1
  rw [decide_eq_false hz1] at tb1
  have hown := ev_lcfA (T := tb B fi sub fu (k+3)) (ρ := [sh (lD nm), sh (rD b), none, none, none, none, none, none]) (own := [7]) (tg := .n 7) (it := .r1 (.bi .len (.cons (.var 1) .nil))) (c := .cmp .eq (.idx (.var 1) (.var 7)) (.var 7)) (e := .var 7) (l := List.range b.length) (g := nD) (h := nD) (p := fun x => decide (bk b x = x)) (evIt_n (ev_bi (evs1 (x := rD b) rfl) (len_r b)) (by omega)) (by rw [List.length_range]; omega) fun x hx => by
    have hx := List.mem_range.mp hx
    exact ⟨[sh (lD nm), sh (rD b), none, none, none, none, none, sh (nD x)], rfl, evn_eq ((ev_idx rfl rfl).trans (bk_idx hx)) rfl, fun _ => rfl⟩
  generalize ho : (List.range b.length).filter (fun x => decide (bk b x = x)) = own at hown
  have hol : own.length ≤ 4 := by
    rw [← ho]
    have := List.length_filter_le (fun x => decide (bk b x = x)) (List.range b.length)
    rw [List.length_range] at this
    omega
  have te : ev (tb B fi sub fu (k+3)) (.cmp .eq (.var 2) (.lst .nil)) [sh (lD nm), sh (rD b), some (.f (.ol (own.map nD))), none, none, none, none, none] = .ok (.bl (decide (own = []))) := (ev_cmp (x := lD own) (y := lD []) rfl rfl).trans (leq own [])
  by_cases hoe : own = []
  · rw [decide_eq_true hoe] at te
    refine ⟨b, [], hbm, List.nil_sublist _, kz, .inr hbj, start _ (stepB (rn_if_n ta) (stepB (rn_if_n tb1) (stepB (rn_asl hown rfl rfl rfl) ?_)))⟩
    obtain ⟨ρ', h1⟩ := ret_l (T := tb B fi sub fu (k+3)) (s := .nil) (e0 [sh (lD nm), sh (rD b), some (.f (.ol (own.map nD))), none, none, none, none, none] rfl)
    exact bindO (bindO (rn_if_t te h1) rfl) rfl
  rw [decide_eq_false hoe] at te
  have hpos : 0 < own.length := List.length_pos_iff.mpr hoe
  obtain ⟨kp, hkp⟩ : ∃ kp, own[v2 % own.length]? = some kp := ⟨_, List.getElem?_eq_getElem (Nat.mod_lt _ hpos)⟩
  obtain ⟨ρ', h1, bs, hs, hk, he⟩ := loopN (f := fun x ρ => (bindT (.n 6) x ρ).bind fun ρ => rns (tb B fi sub fu (k+3)) (.cons (.ife (.and (.cmp .notin (.var 3) (.idx (.var 5) (.var 6))) (.cmp .eq (.bin .mod (.bin .fdiv (.idx (.var 0) (.bin .add (.cI 3) (.bin .mod (.var 6) (.bin .sub (.bi .len (.cons (.var 0) .nil)) (.cI 3))))) (.bin .add (.cI 1) (.bin .fdiv (.var 6) (.cI 7)))) (.cI 2)) (.cI 1))) (.cons (.app 4 (.idx (.var 5) (.var 6))) .nil) .nil) .nil) ρ)
    (formsOf b).length (fun i ρ => ∃ bs, List.Sublist bs ((formsOf b).take i) ∧ (∀ t ∈ bs, kp ∉ t) ∧ ρ = KV nm b own kp bs (lvN none i)) (KV nm b own kp [] none) (fun i ρ hi ⟨bs, hs, hk, e⟩ => by
      subst e
      have hmod := Nat.mod_lt i (show 0 < 27 by decide)
      obtain ⟨v, hv⟩ := hnm (3 + i % 27) (by omega)
      have hfi : ev (tb B fi sub fu (k+3)) (.idx (.var 5) (.var 6)) (KV nm b own kp bs (sh (nD i))) = .ok (rD (formsOf b)[i]) := (ev_idx (x := .lst ((formsOf b).map rD)) (y := nD i) rfl rfl).trans (idx_l (by rw [List.getElem?_map, List.getElem?_eq_getElem hi]; rfl))
      have hg : ev (tb B fi sub fu (k+3)) (.and (.cmp .notin (.var 3) (.idx (.var 5) (.var 6))) (.cmp .eq (.bin .mod (.bin .fdiv (.idx (.var 0) (.bin .add (.cI 3) (.bin .mod (.var 6) (.bin .sub (.bi .len (.cons (.var 0) .nil)) (.cI 3))))) (.bin .add (.cI 1) (.bin .fdiv (.var 6) (.cI 7)))) (.cI 2)) (.cI 1))) (KV nm b own kp bs (sh (nD i))) = .ok (.bl ((!decide (kp ∈ (formsOf b)[i])) && decide (v / (1 + i / 7) % 2 = 1))) := by
        refine evAnd ((ev_cmp rfl hfi).trans (nni_t _ _)) ?_
        refine evn_eq (x := v / (1 + i / 7) % 2) (y := 1) (evn_mod (y := 2) (evn_fdiv ?_ (evn_add (x := 1) rfl (evn_fdiv (x := i) (y := 7) rfl rfl (by omega) (by omega))) (by omega) (by omega)) rfl (by omega)) rfl
        refine (ev_idx (y := nD (3 + i % 27)) rfl (evn_add (x := 3) rfl (evn_mod (x := i) (y := 27) rfl ?_ (by omega)))).trans (idx_ln hv)
        have := evn_sub (T := tb B fi sub fu (k+3)) (ρ := KV nm b own kp bs (sh (nD i))) (e := .bi .len (.cons (.var 0) .nil)) (e' := .cI 3) (x := nm.length) (y := 3) (ev_bi (evs1 (x := lD nm) rfl) (len_ln nm)) rfl (by omega)
        rw [this, hl]
      have htk : (formsOf b).take (i + 1) = (formsOf b).take i ++ [(formsOf b)[i]] := (List.take_append_getElem hi).symm
      cases hc : ((!decide (kp ∈ (formsOf b)[i])) && decide (v / (1 + i / 7) % 2 = 1)) with
      | true =>
        rw [hc] at hg
        have hck := (Bool.and_eq_true_iff.mp hc).1
        refine ⟨KV nm b own kp (bs ++ [(formsOf b)[i]]) (sh (nD i)), bindO (x := KV nm b own kp bs (sh (nD i))) rfl (stp (rn_if_t hg (stp ?_ rfl)) rfl), bs ++ [(formsOf b)[i]], by rw [htk]; exact hs.append (List.Sublist.refl _), fun t ht => (List.mem_append.mp ht).elim (hk t) fun z => by rw [List.mem_singleton] at z; subst z; simpa using hck, rfl⟩
        unfold KV
        rw [List.map_append]
        refine rn_app rfl hfi rfl ?_
        rw [List.length_map]
        have h1 := hs.length_le
        rw [List.length_take] at h1
        exact line_of (by omega)
      | false =>
        rw [hc] at hg
        exact ⟨KV nm b own kp bs (sh (nD i)), bindO (x := KV nm b own kp bs (sh (nD i))) rfl (stp (rn_if_n hg) rfl), bs, by rw [htk]; exact hs.trans (List.sublist_append_left _ _), hk, rfl⟩) ⟨[], List.nil_sublist _, fun t ht => absurd ht (fun z => nomatch z), rfl⟩
  subst he
  rw [List.take_length] at hs
  have hko : kp < b.length ∧ bk b kp = kp := by
    have z := List.mem_of_getElem? hkp
    rw [← ho] at z
    obtain ⟨z1, z2⟩ := List.mem_filter.mp z
    exact ⟨List.mem_range.mp z1, by simpa using z2⟩
  refine ⟨b, bs, hbm, hs, .inr ⟨kp, hko.1, .inr hko.2, hk⟩, .inr hbj, start _ (stepB (rn_if_n ta) (stepB (rn_if_n tb1) (stepB (rn_asl hown rfl rfl rfl) (stepB (rn_if_n te) ?_))))⟩
  refine stepB (ρ' := [sh (lD nm), sh (rD b), some (.f (.ol (own.map nD))), sh (nD kp), none, none, none, none]) (rn_asgF ((ev_idx (x := lD own) (y := nD (v2 % own.length)) rfl (evn_mod ((ev_idx (x := lD nm) (y := nD 2) rfl rfl).trans (idx_ln hv2)) (ev_bi (evs1 (x := lD own) rfl) (len_ln own)) hpos)).trans (idx_ln hkp)) rfl rfl rfl) ?_
  refine stepB (ρ' := [sh (lD nm), sh (rD b), some (.f (.ol (own.map nD))), sh (nD kp), some (.f (.ol [])), none, none, none]) rfl ?_
  refine stepB (ρ' := KV nm b own kp [] none) (rn_asg (cl (xs := [rD b]) rfl (c13 (k := k) h11 h12 h13 hb)) rfl rfl rfl) ?_
  refine stepB (rn_for (i := ((formsOf b).length : Nat)) (ev_bi (evs1 (x := .lst ((formsOf b).map rD)) rfl) (len_lr _)) (smallI_nat (by omega)) h1) ?_
  exact ret_b rfl fun _ => rfl
theorem c24k (h10 : B 10 = some f10) (h11 : B 11 = some f11) (h12 : B 12 = some f12) (h13 : B 13 = some f13) (h23 : B 23 = some f23) (h24 : B 24 = some f24) {k : Nat} {nm : List Nat} (hl : nm.length = 30) :
    ∃ b bs, b ∈ backs ∧ List.Sublist bs (formsOf b) ∧ Knt b bs ∧ callF B fi sub fu (k+4) 24 [lD nm] = .ok (.tup [rD b, .tup (bs.map rD)]) :=
  let ⟨b, bs, h1, h2, h4, _, h3⟩ := c24m (fi := fi) (sub := sub) (fu := fu) (k := k) h10 h11 h12 h13 h23 h24 hl
  ⟨b, bs, h1, h2, h4, h3⟩
theorem c24 (h10 : B 10 = some f10) (h11 : B 11 = some f11) (h12 : B 12 = some f12) (h13 : B 13 = some f13) (h23 : B 23 = some f23) (h24 : B 24 = some f24) {k : Nat} {nm : List Nat} (hl : nm.length = 30) :
    ∃ b bs, b ∈ backs ∧ List.Sublist bs (formsOf b) ∧ callF B fi sub fu (k+4) 24 [lD nm] = .ok (.tup [rD b, .tup (bs.map rD)]) :=
  let ⟨b, bs, h1, h2, _, h3⟩ := c24k (fi := fi) (sub := sub) (fu := fu) (k := k) h10 h11 h12 h13 h23 h24 hl
  ⟨b, bs, h1, h2, h3⟩
end PD.Core
end

section
set_option Elab.async false
set_option linter.all false
set_option maxRecDepth 100000
/-! PD, part 31: loops that say no at once, slices, sorted rows. -/
namespace PD.Core
open PySem PD PySem.W
/-- a loop that returns False at the first that is not so -/
theorem loopB {α : Type} {f : D → PD.Env → R Fl} {g : α → D} {p : α → Bool} {I : PD.Env → Prop} : ∀ (l : List α), (∀ a ∈ l, ∀ ρ, I ρ → (p a = true ∧ ∃ ρ', f (g a) ρ = .ok (.nx ρ') ∧ I ρ') ∨ (p a = false ∧ ∃ ρ', f (g a) ρ = .ok (.rt (.bl false) ρ'))) → ∀ ρ, I ρ →
    (l.all p = true ∧ ∃ ρ', loopF f (l.map g) ρ = .ok (.nx ρ') ∧ I ρ') ∨ (l.all p = false ∧ ∃ ρ', loopF f (l.map g) ρ = .ok (.rt (.bl false) ρ'))
  | [], _, ρ, hI => .inl ⟨rfl, ρ, rfl, hI⟩
  | a :: l, h, ρ, hI => by
    rcases h a List.mem_cons_self ρ hI with ⟨h1, ρ1, h2, h3⟩ | ⟨h1, ρ1, h2⟩
    · rcases loopB l (fun b hb => h b (List.mem_cons_of_mem _ hb)) ρ1 h3 with ⟨k1, ρ2, k2, k3⟩ | ⟨k1, ρ2, k2⟩
      · exact .inl ⟨by rw [List.all_cons, h1, k1]; rfl, ρ2, loopF_c h2 k2, k3⟩
      · exact .inr ⟨by rw [List.all_cons, k1, Bool.and_false], ρ2, loopF_c h2 k2⟩
    · exact .inr ⟨by rw [List.all_cons, h1]; rfl, ρ1, loopF_rt h2⟩
/-- its end: False, or what comes behind -/
theorem endB {T : Tab} {s : St} {r : Sts} {ρ : PD.Env} {b c : Bool} {g : Fl → R D} {I : PD.Env → Prop} (h : (b = true ∧ ∃ ρ', rn T s ρ = .ok (.nx ρ') ∧ I ρ') ∨ (b = false ∧ ∃ ρ', rn T s ρ = .ok (.rt (.bl false) ρ')))
    (k : ∀ ρ', I ρ' → (rns T r ρ').bind g = .ok (.bl c)) (hg : ∀ ρ', g (.rt (.bl false) ρ') = .ok (.bl false)) : (rns T (.cons s r) ρ).bind g = .ok (.bl (b && c)) := by
  rcases h with ⟨rfl, ρ', h1, h2⟩ | ⟨rfl, ρ', h1⟩
  · exact stepB h1 (k ρ' h2)
  · rw [show rns T (.cons s r) ρ = .ok (.rt (.bl false) ρ') from bindO h1 rfl]
    exact hg ρ'
theorem nni_l (a : Nat) (l : List Nat) : cmpD .notin (nD a) (lD l) = .ok (.bl (!decide (a ∈ l))) := by
  have := deep_n a
  rw [cmpD, any_n]; exact guardR_t (by rw [plains_n, decide_eq_true (by omega)]; rfl)
/-! slices -/
theorem smallO_n {a : Nat} (h : a ≤ 100000) : smallO (some (a : Int)) = true := smallI_nat h
theorem cut_lo (xs : List D) (a : Nat) (h : a ≤ xs.length) : cutL xs (some (a : Int)) none = xs.drop a := by
  have h1 : HT.sIx xs.length 0 (some (a : Int)) = a := by rw [HT.sIx_nat]; omega
  unfold cutL
  rw [h1, HT.sIx_none]
  exact List.take_of_length_le (by rw [List.length_drop]; omega)
theorem cut_hi (xs : List D) (a : Nat) (h : a ≤ xs.length) : cutL xs none (some (a : Int)) = xs.take a := by
  have h1 : HT.sIx xs.length xs.length (some (a : Int)) = a := by rw [HT.sIx_nat]; omega
  unfold cutL
  rw [h1, HT.sIx_none]
  rw [List.drop_zero, Nat.sub_zero]
section
variable {T : Tab} {ρ : PD.Env} {a b : Ex} {xs : List D} {n : Nat}
theorem ev_slL (ha : ev T a ρ = .ok (.tup xs)) (hb : ev T b ρ = .ok (nD n)) (h : n ≤ xs.length) (hx : xs.length ≤ 100000) : ev T (.slL a b) ρ = .ok (.tup (xs.drop n)) := by
  refine bindO ha (bindO hb (bindO (x := (n : Int)) rfl ?_))
  show guardR (smallO (some (n : Int)) && smallO none) (.ok (D.tup (cutL xs (some (n : Int)) none))) = _
  rw [cut_lo xs n h]
  exact guardR_t (by rw [smallO_n (by omega)]; rfl)
theorem ev_slU (ha : ev T a ρ = .ok (.tup xs)) (hb : ev T b ρ = .ok (nD n)) (h : n ≤ xs.length) (hx : xs.length ≤ 100000) : ev T (.slU a b) ρ = .ok (.tup (xs.take n)) := by
  refine bindO ha (bindO hb (bindO (x := (n : Int)) rfl ?_))
  show guardR (smallO none && smallO (some (n : Int))) (.ok (D.tup (cutL xs none (some (n : Int))))) = _
  rw [cut_hi xs n h]
  exact guardR_t (by rw [smallO_n (by omega)]; rfl)
theorem ev_addt {ys : List D} (ha : ev T a ρ = .ok (.tup xs)) (hb : ev T b ρ = .ok (.tup ys)) (h : xs.length + ys.length ≤ 100000) : ev T (.bin .add a b) ρ = .ok (.tup (xs ++ ys)) :=
  (ev_bin ha hb).trans (guardR_t (decide_eq_true (line_of h)))
theorem ev_addl {ys : List D} (ha : ev T a ρ = .ok (.lst xs)) (hb : ev T b ρ = .ok (.lst ys)) (h : xs.length + ys.length ≤ 100000) : ev T (.bin .add a b) ρ = .ok (.lst (xs ++ ys)) :=
  (ev_bin ha hb).trans (guardR_t (decide_eq_true (line_of h)))
theorem ev_u1 {x : D} (ha : ev T a ρ = .ok x) : ev T (.tup (.cons a .nil)) ρ = .ok (.tup [x]) := bindO (evs1 ha) rfl
theorem evn_max {x y : Nat} (ha : ev T a ρ = .ok (nD x)) (hb : ev T b ρ = .ok (nD y)) : ev T (.bi .max2 (.cons a (.cons b .nil))) ρ = .ok (nD (if y > x then y else x)) := by
  refine ev_bi (evsC ha (evs1 hb)) ?_
  show R.ok (D.int (if (y : Int) > (x : Int) then (y : Int) else (x : Int))) = _
  by_cases h : y > x
  · rw [if_pos h, if_pos (Int.ofNat_lt.mpr h)]
  · rw [if_neg h, if_neg (fun z => h (Int.ofNat_lt.mp z))]
end
/-! sorted rows -/
def sortR (l : List (List Nat)) : List (List Nat) := l.mergeSort fun x y => !ltR y x
theorem sorted_r (l : List (List Nat)) (h : ∀ x ∈ l, x ≠ []) : biD .sorted [.lst (l.map rD)] = .ok (.lst ((sortR l).map rD)) := by
  have ht : tups1 (l.map rD) = true := by
    unfold tups1
    rw [Bool.or_eq_true]
    refine .inl (List.all_eq_true.mpr fun x hx => ?_)
    obtain ⟨a, ha, rfl⟩ := List.mem_map.mp hx
    have := h a ha
    match a, this with
    | p :: a, _ => rfl
  show guardR (sortOk (l.map rD) && tups1 (l.map rD)) (R.ok (D.lst ((l.map rD).mergeSort (dataLe false toP)))) = _
  rw [guardR_t (by rw [sortOk_r, ht]; rfl)]
  unfold sortR
  rw [List.map_mergeSort (s := dataLe false toP)]
  intro a _ b _
  rw [dataLe_eq]
  show (!ltR b a) = (!dataLt (toP (rD b)) (toP (rD a)))
  rw [show dataLt (toP (rD b)) (toP (rD a)) = ltR b a from ltD_r b a]
/-- a tuple of rows and none -/
theorem ne_nil (l : List (List Nat)) : cmpD .ne (.tup (l.map rD)) (.tup []) = .ok (.bl (!decide (l = []))) := by
  have h1 : eqD (.tup (l.map rD)) (.tup []) = decide (l = []) := by
    cases l with
    | nil =>
      rw [decide_eq_true rfl]
      show PyData.eqv (.tuple []) (.tuple []) = true
      rw [PyData.eqv, PyData.eqvAll]
    | cons x l =>
      rw [decide_eq_false (by simp)]
      show PyData.eqv (.tuple (toP (rD x) :: toPs (l.map rD))) (.tuple []) = false
      rw [PyData.eqv, PyData.eqvAll]
      all_goals simp
  rw [cmpD, h1]
  refine guardR_t ?_
  unfold eqOk
  have : deep (.tup []) ≤ 1 := by decide
  rw [show plain (.tup (l.map rD)) = true from plains_r l, decide_eq_true (by omega)]; rfl
/-- are_below, _law_is_row of any row -/
theorem c22g {B : Nat → Option FnI} {fi : Nat → Str → Option Nat} {sub : Nat → Nat → Bool} {fu : Nat} (h15 : B 15 = some f15) (h22 : B 22 = some f22) {k m n : Nat} {a : List Nat} : callF B fi sub fu (k+2) 22 [rD a, nD m, nD n] = .ok (.bl (belowB a m n)) := by
  refine callF_run (f := f22) (ρ := [sh (rD a), sh (nD m), sh (nD n), none]) h22 rfl rfl ?_
  have hc : ev (tb B fi sub fu (k+1)) (.or (.not (.isi (.var 0) .tuple)) (.cmp .ne (.bi .len (.cons (.var 0) .nil)) (.var 1))) [sh (rD a), sh (nD m), sh (nD n), none] = .ok (.bl (!decide (a.length = m))) :=
    ev_or_f (evNot (k := true) rfl) ((ev_cmp (x := nD a.length) (y := nD m) (ev_bi (evs1 (x := rD a) rfl) (len_r a)) rfl).trans ((ne_i _ _).trans (by rw [show decide ((a.length : Int) = (m : Int)) = decide (a.length = m) from decide_eq_decide.mpr Int.ofNat_inj])))
  unfold belowB
  by_cases e : a.length = m
  · rw [decide_eq_true e] at hc ⊢
    refine stepB (rn_if_n hc) ?_
    have lp := loopB (f := fun x ρ => (bindT (.n 3) x ρ).bind fun ρ => rns (tb B fi sub fu (k+1)) (.cons (.ife (.or (.not (.call 15 (.cons (.var 3) .nil))) (.or (.cmp .lt (.var 3) (.cI 0)) (.cmp .ge (.var 3) (.var 2)))) (.cons (.ret (.cB false)) .nil) .nil) .nil) ρ) (g := nD) (p := fun x => decide (x < n)) (I := fun ρ => ∃ o, ρ = [sh (rD a), sh (nD m), sh (nD n), o]) a (fun x _ ρ ⟨o, e⟩ => by
      subst e
      have hx : ev (tb B fi sub fu (k+1)) (.or (.not (.call 15 (.cons (.var 3) .nil))) (.or (.cmp .lt (.var 3) (.cI 0)) (.cmp .ge (.var 3) (.var 2)))) [sh (rD a), sh (nD m), sh (nD n), sh (nD x)] = .ok (.bl (!decide (x < n))) := by
        refine ev_or_f (evNot (k := true) (cl (xs := [nD x]) rfl (c15 h15))) (ev_or_f ?_ ?_)
        · exact (ev_lt (i := (x : Int)) (j := 0) rfl rfl).trans (by rw [decide_eq_false (by omega)])
        · exact (ev_ge (i := (x : Int)) (j := (n : Int)) rfl rfl).trans (by rw [show decide ((x : Int) < (n : Int)) = decide (x < n) from decide_eq_decide.mpr Int.ofNat_lt])
      by_cases hl : x < n
      · rw [decide_eq_true hl] at hx ⊢
        exact .inl ⟨rfl, _, bindO (x := [sh (rD a), sh (nD m), sh (nD n), sh (nD x)]) rfl (stp (rn_if_n hx) rfl), _, rfl⟩
      · rw [decide_eq_false hl] at hx ⊢
        obtain ⟨ρ', h1⟩ := ret_l (T := tb B fi sub fu (k+1)) (ρ := [sh (rD a), sh (nD m), sh (nD n), sh (nD x)]) (e := .cB false) (s := .nil) rfl
        exact .inr ⟨rfl, ρ', bindO (x := [sh (rD a), sh (nD m), sh (nD n), sh (nD x)]) rfl (bindO (rn_if_t hx h1) rfl)⟩) [sh (rD a), sh (nD m), sh (nD n), none] ⟨_, rfl⟩
    have e2 := endB (T := tb B fi sub fu (k+1)) (s := .fr (.n 3) (.e (.var 0)) (.cons (.ife (.or (.not (.call 15 (.cons (.var 3) .nil))) (.or (.cmp .lt (.var 3) (.cI 0)) (.cmp .ge (.var 3) (.var 2)))) (.cons (.ret (.cB false)) .nil) .nil) .nil)) (r := .cons (.ret (.cB true)) .nil) (ρ := [sh (rD a), sh (nD m), sh (nD n), none]) (c := true) (g := f22.fin)
      (lp.imp (fun ⟨h1, ρ', h2, h3⟩ => ⟨h1, ρ', rn_fr (xs := a.map nD) rfl rfl h2, h3⟩) (fun ⟨h1, ρ', h2⟩ => ⟨h1, ρ', rn_fr (xs := a.map nD) rfl rfl h2⟩)) (fun ρ' _ => ret_b (d := .bl true) rfl fun _ => rfl) (fun _ => rfl)
    rw [Bool.and_true] at e2
    rw [Bool.true_and]
    exact e2
  · rw [decide_eq_false e] at hc ⊢
    obtain ⟨ρ', h1⟩ := ret_l (T := tb B fi sub fu (k+1)) (ρ := [sh (rD a), sh (nD m), sh (nD n), none]) (e := .cB false) (s := .nil) rfl
    exact bindO (bindO (rn_if_t hc h1) rfl) rfl
end PD.Core
end

section
set_option Elab.async false
set_option linter.all false
set_option maxRecDepth 100000
/-! PD, part 29: the books that the laws draw as knit; no bar where a kind is free. -/
namespace PD.Core
open PySem PD
def b54 : Sts := (.cons (.ret (.lc [2] (.n 2) (.r1 (.fld (.var 0) "kinds")) (.cons (.cmp .notin (.tup (.cons (.var 2) (.cons (.idx (.var 1) (.cI 0)) (.cons (.idx (.var 1) (.cI 1)) .nil)))) (.fld (.var 0) "lets")) .nil) (.var 2))) .nil)
def f54 : FnI := ⟨2, 3, none, b54, none⟩
def b57 : Sts := (.cons (.asg (.n 3) (.lc2 [6, 7] [7] (.n 6) (.r1 (.fld (.var 0) "kinds")) .nil (.n 7) (.r1 (.fld (.var 0) "kinds")) .nil (.tup (.cons (.var 6) (.cons (.var 7) .nil))))) (.cons (.asg (.n 4) (.lc [8] (.n 8) (.e (.var 3)) (.cons (.or (.call 54 (.cons (.var 0) (.cons (.var 8) .nil))) (.and (.not (.var 2)) (.cmp .ne (.idx (.var 8) (.cI 0)) (.idx (.var 8) (.cI 1))))) .nil) (.var 8))) (.cons (.asg (.n 5) (.dcN [8, 9] (.n 8) (.e (.var 4)) .nil (.cons [9] (.n 9) (.e (.call 54 (.cons (.var 0) (.cons (.var 8) .nil)))) .nil .nil) (.var 9) (.cB true))) (.cons (.ife (.cmp .lt (.bi .len (.cons (.var 5) .nil)) (.fld (.var 0) "kinds")) (.cons (.ret (.lst .nil)) .nil) .nil) (.cons (.ret (.lc [10] (.n 10) (.e (.call 30 (.cons (.var 4) (.cons (.var 1) .nil)))) (.cons (.call 56 (.cons (.var 0) (.cons (.var 10) (.cons (.var 2) .nil)))) .nil) (.var 10))) .nil)))))
def f57 : FnI := ⟨3, 11, none, b57, none⟩
def b58 : Sts := (.cons (.ret (.ite (.var 1) (.fld (.var 0) "kinds") (.bin .add (.fld (.var 0) "kinds") (.cI 1)))) .nil)
def f58 : FnI := ⟨2, 2, none, b58, none⟩
def b62 : Sts := (.cons (.fr (.n 2) (.r2 (.cI 1) (.bin .add (.call 58 (.cons (.var 0) (.cons (.var 1) .nil))) (.cI 1))) (.cons (.fr (.n 3) (.e (.call 57 (.cons (.var 0) (.cons (.var 2) (.cons (.var 1) .nil))))) (.cons (.asg (.n 4) (.call 60 (.cons (.var 0) (.cons (.var 3) .nil)))) (.cons (.ife (.var 4) (.cons (.ret (.call 61 (.cons (.idx (.var 4) (.cI 0)) (.cons (.var 3) .nil)))) .nil) .nil) .nil))) .nil)) (.cons (.ret .cN) .nil))
def f62 : FnI := ⟨2, 5, none, b62, none⟩
def b63 : Sts := (.cons (.ret (.call 62 (.cons (.var 0) (.cons (.cB false) .nil)))) .nil)
def f63 : FnI := ⟨1, 1, none, b63, none⟩

theorem all_ni : (backs.all fun b => (List.range b.length).all fun z => !decide (bk b z = z) || (tris b.length).all fun t => !decide (z ∈ t) || decide (z ∈ formR b t)) = true := by decide +kernel
/-- a trio with the free kind is let -/
theorem free_let {b : List Nat} {bs : List (List Nat)} {z : Nat} (hm : b ∈ backs) (hz : z < b.length) (h : bs = [] ∨ bk b z = z) (hk : ∀ t ∈ bs, z ∉ t) {t : List Nat} (ht : t ∈ tris b.length) (hin : z ∈ t) : letB b bs t = true := by
  unfold letB
  rcases h with h | h
  · subst h; rfl
  · have h1 := List.all_eq_true.mp (List.all_eq_true.mp all_ni b hm) z (List.mem_range.mpr hz)
    rw [decide_eq_true h, Bool.not_true, Bool.false_or] at h1
    have h2 := List.all_eq_true.mp h1 t ht
    rw [decide_eq_true hin, Bool.not_true, Bool.false_or] at h2
    rw [decide_eq_false (fun q => hk _ q (of_decide_eq_true h2))]
    rfl
/-! what is not let -/
theorem ni_lets {b : List Nat} {bs : List (List Nat)} {t : List Nat} (ht : t ∈ tris b.length) : cmpD .notin (rD t) (.dct true (letsL b bs)) = .ok (.bl (!letB b bs t)) := by
  have h := in_lets (bs := bs) ht
  have hk : keyOk true (rD t) = true := by
    show (true && (t.map nD).all isAtom) = true
    rw [Bool.true_and, List.all_eq_true]
    intro x hx
    obtain ⟨y, _, rfl⟩ := List.mem_map.mp hx
    rfl
  have h : guardR (keyOk true (rD t)) (R.ok (D.bl (findK (letsL b bs) (rD t)).isSome)) = .ok (.bl (letB b bs t)) := h
  show guardR (keyOk true (rD t)) (R.ok (D.bl (!(findK (letsL b bs) (rD t)).isSome))) = _
  rw [guardR_t hk] at h ⊢
  have h : (findK (letsL b bs) (rD t)).isSome = letB b bs t := by
    injection h with h
    injection h
  rw [h]
theorem collect_fm {α : Type} {f : D → R (List D)} {g : α → D} {h : α → List D} : ∀ {l : List α}, (∀ a ∈ l, f (g a) = .ok (h a)) → collect f (l.map g) = .ok (l.flatMap h)
  | [], _ => rfl
  | a :: l, k => bindO (k a List.mem_cons_self) (bindO (collect_fm (l := l) fun x hx => k x (List.mem_cons_of_mem _ hx)) rfl)
theorem collect_ex {α : Type} {f : D → R (List D)} {g : α → D} : ∀ {l : List α}, (∀ a ∈ l, f (g a) = .ok [] ∨ f (g a) = .ok [g a]) → ∃ l', List.Sublist l' l ∧ collect f (l.map g) = .ok (l'.map g)
  | [], _ => ⟨[], .slnil, rfl⟩
  | a :: l, k => by
    obtain ⟨l', h1, h2⟩ := collect_ex (l := l) fun x hx => k x (List.mem_cons_of_mem _ hx)
    rcases k a List.mem_cons_self with h | h
    · exact ⟨l', h1.cons a, bindO h (bindO h2 rfl)⟩
    · exact ⟨a :: l', h1.cons₂ a, bindO h (bindO h2 rfl)⟩
/-- a dict of some keys is no longer than the list that holds them -/
theorem keys_few {S : List Nat} : ∀ {ks : List Nat} {kvs : List (D × D)} {K : List Nat}, (∀ k ∈ ks, k ∈ S) → kvs.map Prod.fst = K.map nD → K.Nodup → (∀ k ∈ K, k ∈ S) → ∃ K' : List Nat, ((ks.map fun k => D.tup [nD k, .bl true]).foldl putP kvs).map Prod.fst = K'.map nD ∧ K'.Nodup ∧ ∀ k ∈ K', k ∈ S
  | [], kvs, K, _, h1, h2, h3 => ⟨K, h1, h2, h3⟩
  | k :: ks, kvs, K, h, h1, h2, h3 => by
    have an : (kvs.any fun p => eqD p.1 (nD k)) = decide (k ∈ K) := by
      have key : ∀ {kvs : List (D × D)} {K : List Nat}, kvs.map Prod.fst = K.map nD → (kvs.any fun p => eqD p.1 (nD k)) = decide (k ∈ K) := by
        intro kvs
        induction kvs with
        | nil => intro K e; cases K with
          | nil => rfl
          | cons a K => cases e
        | cons p kvs ih => intro K e; cases K with
          | nil => cases e
          | cons a K =>
            rw [List.map_cons, List.map_cons] at e
            injection e with e1 e2
            rw [List.any_cons, ih e2, e1]
            have : eqD (nD a) (nD k) = decide (a = k) := eqD_n a k
            rw [this, Bool.eq_iff_iff]
            simp only [Bool.or_eq_true, decide_eq_true_eq, List.mem_cons]
            exact ⟨fun z => z.imp Eq.symm id, fun z => z.imp Eq.symm id⟩
      exact key h1
    refine keys_few (ks := ks) (kvs := PD.putK kvs (nD k) (.bl true)) (K := if k ∈ K then K else K ++ [k]) (fun x hx => h x (List.mem_cons_of_mem _ hx)) ?_ ?_ ?_
    · unfold PD.putK
      rw [an]
      by_cases z : k ∈ K
      · rw [if_pos (decide_eq_true z), if_pos z, List.map_map, ← h1]
        refine List.map_congr_left fun p _ => ?_
        show (if eqD p.1 (nD k) = true then (p.1, D.bl true) else p).1 = p.1
        split <;> rfl
      · rw [if_neg (by rw [decide_eq_false z]; exact Bool.false_ne_true), if_neg z, List.map_append, List.map_append, h1]
        rfl
    · by_cases z : k ∈ K
      · rw [if_pos z]; exact h2
      · rw [if_neg z]
        exact List.nodup_append.mpr ⟨h2, by simp, fun a ha b hb => by rw [List.mem_singleton] at hb; subst hb; exact fun e => z (e ▸ ha)⟩
    · intro x hx
      by_cases z : k ∈ K
      · rw [if_pos z] at hx; exact h3 x hx
      · rw [if_neg z] at hx
        rcases List.mem_append.mp hx with hx | hx
        · exact h3 x hx
        · rw [List.mem_singleton] at hx; subst hx; exact h _ List.mem_cons_self
theorem loop_inv {f : D → PD.Env → R Fl} {I : PD.Env → Prop} : ∀ {xs : List D} {ρ : PD.Env}, I ρ → (∀ x ∈ xs, ∀ ρ, I ρ → ∃ ρ', f x ρ = .ok (.nx ρ') ∧ I ρ') → ∃ ρ', loopF f xs ρ = .ok (.nx ρ') ∧ I ρ'
  | [], ρ, h, _ => ⟨ρ, rfl, h⟩
  | x :: xs, ρ, h, k => by
    obtain ⟨ρ1, h1, h2⟩ := k x List.mem_cons_self ρ h
    obtain ⟨ρ2, h3, h4⟩ := loop_inv (xs := xs) h2 fun y hy => k y (List.mem_cons_of_mem _ hy)
    exact ⟨ρ2, loopF_c h1 h3, h4⟩
section
variable {B : Nat → Option FnI} {fi : Nat → Str → Option Nat} {sub : Nat → Nat → Bool} {fu k : Nat} {b : List Nat} {bs : List (List Nat)}
def kbar (b : List Nat) (bs : List (List Nat)) (p q : Nat) : List Nat := (List.range b.length).filter fun z => !letB b bs [z, p, q]
theorem k54 (hf : BkFi fi) (h54 : B 54 = some f54) (hle : b.length ≤ 4) {p q : Nat} (hp : p < b.length) (hq : q < b.length) : callF B fi sub fu (k+1) 54 [bookD b bs, rD [p, q]] = .ok (lD (kbar b bs p q)) := by
  refine callF_run (f := f54) (ρ := [sh (bookD b bs), sh (rD [p, q]), none]) h54 rfl rfl ?_
  refine ret_b (ev_lcfA (own := [2]) (l := List.range b.length) (g := nD) (h := nD) (p := fun z => !letB b bs [z, p, q]) (evIt_n (fld_kinds hf rfl) (by omega)) (by rw [List.length_range]; omega) fun z hz => ?_) fun _ => rfl
  have hz := List.mem_range.mp hz
  exact ⟨[sh (bookD b bs), sh (rD [p, q]), sh (nD z)], rfl, (ev_cmp (x := rD [z, p, q]) rfl (fld_lets hf rfl)).trans (ni_lets (mem_tris hz hp hq)), fun _ => rfl⟩
theorem fm1 {α β : Type} {g : α → β} : ∀ l : List α, (l.flatMap fun k => [g k]) = l.map g
  | [] => rfl
  | x :: l => by rw [List.flatMap_cons, fm1 l]; rfl
theorem nd_len : ∀ {K S : List Nat}, K.Nodup → (∀ x ∈ K, x ∈ S) → K.length ≤ S.length
  | [], _, _, _ => Nat.zero_le _
  | a :: K, S, h, k => by
    obtain ⟨h1, h2⟩ := List.nodup_cons.mp h
    have ha := k a List.mem_cons_self
    have := nd_len (K := K) (S := S.erase a) h2 fun x hx => (List.mem_erase_of_ne (by intro e; subst e; exact h1 hx)).mpr (k x (List.mem_cons_of_mem _ hx))
    rw [List.length_erase_of_mem ha] at this
    have := List.length_pos_of_mem ha
    rw [List.length_cons]
    omega
/-- the pairs of kinds -/
def prs2 (n : Nat) : List (Nat × Nat) := (List.range n).flatMap fun p => (List.range n).flatMap fun q => [(p, q)]
def pD (a : Nat × Nat) : D := rD [a.1, a.2]
theorem prs2_len {n : Nat} (h : n ≤ 4) : (prs2 n).length ≤ 16 := by
  have : n = 0 ∨ n = 1 ∨ n = 2 ∨ n = 3 ∨ n = 4 := by omega
  rcases this with rfl | rfl | rfl | rfl | rfl <;> decide
theorem prs2_mem {n : Nat} {a : Nat × Nat} (h : a ∈ prs2 n) : a.1 < n ∧ a.2 < n := by
  obtain ⟨p, hp, h⟩ := List.mem_flatMap.mp h
  obtain ⟨q, hq, h⟩ := List.mem_flatMap.mp h
  rw [List.mem_singleton] at h
  subst h
  exact ⟨List.mem_range.mp hp, List.mem_range.mp hq⟩
theorem len_dct (kvs : List (D × D)) : biD .len [.dct false kvs] = .ok (nD kvs.length) := rfl
theorem frozs_p (l : List (Nat × Nat)) : frozs (l.map pD) = true := by
  induction l with
  | nil => rfl
  | cons a l ih => exact ih
theorem rn_aslZ {T : Tab} {e : Ex} {ρ : PD.Env} {i : Nat} {ds : List D} (he : ev T e ρ = .ok (.lst ds)) (hz : frozs ds = true) (hf : frs e = true) (hi : decide (i < ρ.length) = true) : rn T (.asg (.n i) e) ρ = .ok (.nx (ρ.set i (some (.f (.ol ds))))) := by
  refine bindO he ?_
  have : keepN (frs e) ρ (roots e) (.lst ds) = ρ := by
    rw [hf]
    show keepRs ρ (roots e) ds = ρ
    unfold keepRs
    rw [hz]
  rw [this, hf]
  exact guardR_t hi
theorem nneq (a c : Nat) : cmpD .ne (nD a) (nD c) = .ok (.bl (!decide (a = c))) := by
  have h : guardR (eqOk (nD a) (nD c)) (R.ok (D.bl (eqD (nD a) (nD c)))) = .ok (.bl (decide (a = c))) := neq a c
  show guardR (eqOk (nD a) (nD c)) (R.ok (D.bl (!eqD (nD a) (nD c)))) = _
  cases e : eqOk (nD a) (nD c) with
  | false => rw [e] at h; cases h
  | true => rw [eqD_n]; rfl
theorem nltn (a c : Nat) : cmpD .lt (nD a) (nD c) = .ok (.bl (decide (a < c))) := by rw [lt_i, show decide ((a : Int) < (c : Int)) = decide (a < c) from decide_eq_decide.mpr Int.ofNat_lt]
def kt (k : Nat) : D := .tup [nD k, .bl true]
theorem ev_dcN1 {T : Tab} {ρ : PD.Env} {own own2 : List Nat} {g g2 : Tg} {it it2 : It} {ke ve : Ex} {xs ys : List D} (hi : evIt T it ρ = .ok xs)
    (hc : collect (fun x => (bindT g x (wipeE (unown ρ (rootsI it)) own)).bind fun ρ => (evIt T it2 ρ).bind fun xs => collect (fun x => (bindT g2 x (wipeE (unown ρ (rootsI it2)) own2)).bind fun ρ => (ev T ke ρ).bind fun y => (ev T ve ρ).bind fun z => guardR (keyOk false y && froz z) (.ok [.tup [y, z]])) xs) xs = .ok ys) (hl : ys.length ≤ line) :
    ev T (.dcN own g it .nil (.cons own2 g2 it2 .nil .nil) ke ve) ρ = .ok (.dct false (dctOf ys)) := by
  rw [ev]
  refine bindO hi (bindO (x := ys) ?_ (guardR_t (decide_eq_true hl)))
  exact Eq.trans (congrArg noExc hc) rfl
abbrev E57 (b : List Nat) (bs : List (List Nat)) (m : Nat) (o3 o4 o5 o6 o7 o8 o9 : Option OD) : PD.Env := [sh (bookD b bs), sh (nD m), sh (.bl false), o3, o4, o5, o6, o7, o8, o9, none]
theorem k57 (hf : BkFi fi) (h54 : B 54 = some f54) (h57 : B 57 = some f57) (hb : BackOk b) {z m : Nat} (hz : z < b.length) (hfree : ∀ p q, p < b.length → q < b.length → letB b bs [z, p, q] = true) : callF B fi sub fu (k+2) 57 [bookD b bs, nD m, .bl false] = .ok (.lst []) := by
  have hle := hb.le
  have c54 : ∀ {p q : Nat}, p < b.length → q < b.length → callF B fi sub fu (k+1) 54 [bookD b bs, rD [p, q]] = .ok (lD (kbar b bs p q)) := fun hp hq => k54 hf h54 hle hp hq
  refine callF_run (f := f57) (ρ := E57 b bs m none none none none none none none) h57 rfl rfl ?_
  -- the pairs
  have e1 : ev (tb B fi sub fu (k+1)) (.lc2 [6, 7] [7] (.n 6) (.r1 (.fld (.var 0) "kinds")) .nil (.n 7) (.r1 (.fld (.var 0) "kinds")) .nil (.tup (.cons (.var 6) (.cons (.var 7) .nil)))) (E57 b bs m none none none none none none none) = .ok (.lst ((prs2 b.length).map pD)) := by
    refine bindO (evIt_n (fld_kinds hf rfl) (by omega)) (bindO (x := (prs2 b.length).map pD) ?_ (guardR_t (decide_eq_true (by rw [List.length_map]; exact line_of (by have := prs2_len hle; omega)))))
    refine Eq.trans (congrArg noExc (collect_fm (h := fun p => (List.range b.length).flatMap fun q => [pD (p, q)]) fun p hp => ?_)) ?_
    · refine bindO (x := E57 b bs m none none none (sh (nD p)) none none none) rfl (bindO (x := true) rfl (bindO (evIt_n (fld_kinds hf rfl) (by omega)) ?_))
      exact collect_fm fun q hq => bindO (x := E57 b bs m none none none (sh (nD p)) (sh (nD q)) none none) rfl (bindO (x := true) rfl (bindO (x := pD (p, q)) rfl rfl))
    · unfold prs2
      rw [List.map_flatMap]
      simp only [List.map_flatMap]
      rfl
  refine stepB (rn_aslZ e1 (frozs_p _) rfl rfl) ?_
  -- the useful ones
  have key : ∀ a ∈ prs2 b.length, ∀ ρ : PD.Env, ρ = E57 b bs m (sh (.lst ((prs2 b.length).map pD))) none none none none (sh (pD a)) none → (evAll (tb B fi sub fu (k+1)) (.cons (.or (.call 54 (.cons (.var 0) (.cons (.var 8) .nil))) (.and (.not (.var 2)) (.cmp .ne (.idx (.var 8) (.cI 0)) (.idx (.var 8) (.cI 1))))) .nil) ρ = .ok true ∨ evAll (tb B fi sub fu (k+1)) (.cons (.or (.call 54 (.cons (.var 0) (.cons (.var 8) .nil))) (.and (.not (.var 2)) (.cmp .ne (.idx (.var 8) (.cI 0)) (.idx (.var 8) (.cI 1))))) .nil) ρ = .ok false) := fun a ha ρ hρ => by
    subst hρ
    obtain ⟨ha1, ha2⟩ := prs2_mem ha
    have e54 : ev (tb B fi sub fu (k+1)) (.call 54 (.cons (.var 0) (.cons (.var 8) .nil))) (E57 b bs m (sh (.lst ((prs2 b.length).map pD))) none none none none (sh (pD a)) none) = .ok (lD (kbar b bs a.1 a.2)) := cl (xs := [bookD b bs, pD a]) rfl (c54 ha1 ha2)
    cases hk : kbar b bs a.1 a.2 with
    | nil =>
      rw [hk] at e54
      have e2 : ev (tb B fi sub fu (k+1)) (.or (.call 54 (.cons (.var 0) (.cons (.var 8) .nil))) (.and (.not (.var 2)) (.cmp .ne (.idx (.var 8) (.cI 0)) (.idx (.var 8) (.cI 1))))) (E57 b bs m (sh (.lst ((prs2 b.length).map pD))) none none none none (sh (pD a)) none) = .ok (.bl (!decide (a.1 = a.2))) :=
        bindO e54 (bindO (x := false) rfl (bindO (x := D.bl true) rfl (bindO (x := true) rfl ((ev_cmp (x := nD a.1) (y := nD a.2) rfl rfl).trans (nneq a.1 a.2)))))
      cases hd : (!decide (a.1 = a.2)) with
      | true => rw [hd] at e2; exact .inl (bindO e2 (bindO (x := true) rfl rfl))
      | false => rw [hd] at e2; exact .inr (bindO e2 (bindO (x := false) rfl rfl))
    | cons x l =>
      rw [hk] at e54
      exact .inl (bindO (x := lD (x :: l)) (bindO e54 (bindO (x := true) rfl rfl)) (bindO (x := true) rfl rfl))
  obtain ⟨U, hU, eU⟩ := collect_ex (f := fun x => (bindT (.n 8) x (wipeE (unown (E57 b bs m (some (.f (.ol ((prs2 b.length).map pD)))) none none none none none none) [3]) [8])).bind fun ρ => (evAll (tb B fi sub fu (k+1)) (.cons (.or (.call 54 (.cons (.var 0) (.cons (.var 8) .nil))) (.and (.not (.var 2)) (.cmp .ne (.idx (.var 8) (.cI 0)) (.idx (.var 8) (.cI 1))))) .nil) ρ).bind fun k' => match k' with
    | true => (ev (tb B fi sub fu (k+1)) (.var 8) ρ).bind fun y => .ok [y]
    | false => .ok []) (g := pD) (l := prs2 b.length) fun a ha => by
      rcases key a ha _ rfl with h | h
      · exact .inr (bindO (x := E57 b bs m (sh (.lst ((prs2 b.length).map pD))) none none none none (sh (pD a)) none) rfl (bindO h rfl))
      · exact .inl (bindO (x := E57 b bs m (sh (.lst ((prs2 b.length).map pD))) none none none none (sh (pD a)) none) rfl (bindO h rfl))
  have hUl : U.length ≤ 16 := Nat.le_trans hU.length_le (prs2_len hle)
  have hUm : ∀ a ∈ U, a.1 < b.length ∧ a.2 < b.length := fun a ha => prs2_mem (hU.subset ha)
  have e2 : ev (tb B fi sub fu (k+1)) (.lc [8] (.n 8) (.e (.var 3)) (.cons (.or (.call 54 (.cons (.var 0) (.cons (.var 8) .nil))) (.and (.not (.var 2)) (.cmp .ne (.idx (.var 8) (.cI 0)) (.idx (.var 8) (.cI 1))))) .nil) (.var 8)) (E57 b bs m (some (.f (.ol ((prs2 b.length).map pD)))) none none none none none none) = .ok (.lst (U.map pD)) :=
    bindO (x := (prs2 b.length).map pD) rfl (bindO (x := U.map pD) (Eq.trans (congrArg noExc eU) rfl) (guardR_t (decide_eq_true (by rw [List.length_map]; exact line_of (by omega)))))
  refine stepB (rn_aslZ e2 (frozs_p _) rfl rfl) ?_
  -- the kinds that are barred somewhere
  have e3 : ev (tb B fi sub fu (k+1)) (.dcN [8, 9] (.n 8) (.e (.var 4)) .nil (.cons [9] (.n 9) (.e (.call 54 (.cons (.var 0) (.cons (.var 8) .nil)))) .nil .nil) (.var 9) (.cB true)) (E57 b bs m (some (.f (.ol ((prs2 b.length).map pD)))) (some (.f (.ol (U.map pD)))) none none none none none) = .ok (.dct false (dctOf ((U.flatMap fun a => kbar b bs a.1 a.2).map kt))) := by
    refine ev_dcN1 (xs := U.map pD) (evIt_e (x := .lst (U.map pD)) rfl rfl) ?_ ?_
    · refine Eq.trans (collect_fm (h := fun a => (kbar b bs a.1 a.2).flatMap fun k => [kt k]) fun a ha => ?_) ?_
      · obtain ⟨ha1, ha2⟩ := hUm a ha
        refine bindO (x := E57 b bs m (some (.f (.ol ((prs2 b.length).map pD)))) (sh (.lst (U.map pD))) none none none (sh (pD a)) none) rfl ?_
        refine bindO (evIt_e (x := lD (kbar b bs a.1 a.2)) (cl (xs := [bookD b bs, pD a]) rfl (c54 ha1 ha2)) rfl) ?_
        exact collect_fm fun c hc => bindO (x := E57 b bs m (some (.f (.ol ((prs2 b.length).map pD)))) (sh (.lst (U.map pD))) none none none (sh (pD a)) (sh (nD c))) rfl rfl
      · rw [List.map_flatMap]
        simp only [fm1]
    · rw [List.length_map]
      have key : ∀ U : List (Nat × Nat), (U.flatMap fun a => kbar b bs a.1 a.2).length ≤ 4 * U.length := fun U => by
        induction U with
        | nil => exact Nat.le_refl _
        | cons a U ih =>
          rw [List.flatMap_cons, List.length_append, List.length_cons]
          have : (kbar b bs a.1 a.2).length ≤ 4 := by
            unfold kbar
            have := List.length_filter_le (fun z => !letB b bs [z, a.1, a.2]) (List.range b.length)
            rw [List.length_range] at this
            omega
          omega
      have := key U
      exact line_of (by omega)
  refine stepB (rn_asg e3 rfl rfl rfl) ?_
  obtain ⟨K, k1, k2, k3⟩ := keys_few (S := (List.range b.length).erase z) (ks := U.flatMap fun a => kbar b bs a.1 a.2) (kvs := []) (K := []) (fun c hc => by
    obtain ⟨a, ha, hc⟩ := List.mem_flatMap.mp hc
    obtain ⟨h1, h2⟩ := List.mem_filter.mp hc
    obtain ⟨ha1, ha2⟩ := hUm a ha
    refine (List.mem_erase_of_ne fun e => ?_).mpr h1
    subst e
    rw [hfree _ _ ha1 ha2] at h2
    exact absurd h2 Bool.false_ne_true) rfl List.nodup_nil (fun c hc => nomatch hc)
  have hlen : (dctOf ((U.flatMap fun a => kbar b bs a.1 a.2).map kt)).length < b.length := by
    have h1 : (((U.flatMap fun a => kbar b bs a.1 a.2).map kt).foldl putP []).length = K.length := by
      have h1 := congrArg List.length k1
      rw [List.length_map, List.length_map] at h1
      exact h1
    have h2 := nd_len k2 k3
    rw [List.length_erase_of_mem (List.mem_range.mpr hz), List.length_range] at h2
    show (((U.flatMap fun a => kbar b bs a.1 a.2).map kt).foldl putP []).length < _
    omega
  have ec : ev (tb B fi sub fu (k+1)) (.cmp .lt (.bi .len (.cons (.var 5) .nil)) (.fld (.var 0) "kinds")) (E57 b bs m (some (.f (.ol ((prs2 b.length).map pD)))) (some (.f (.ol (U.map pD)))) (sh (.dct false (dctOf ((U.flatMap fun a => kbar b bs a.1 a.2).map kt)))) none none none none) = .ok (.bl true) :=
    (ev_cmp (x := nD (dctOf ((U.flatMap fun a => kbar b bs a.1 a.2).map kt)).length) (y := nD b.length) (ev_bi (evs1 rfl) rfl) (fld_kinds hf rfl)).trans (by rw [nltn, decide_eq_true hlen])
  obtain ⟨ρ', hr⟩ := ret_l (T := tb B fi sub fu (k+1)) (s := .nil) (ρ := E57 b bs m (some (.f (.ol ((prs2 b.length).map pD)))) (some (.f (.ol (U.map pD)))) (sh (.dct false (dctOf ((U.flatMap fun a => kbar b bs a.1 a.2).map kt)))) none none none none) (e := .lst .nil) (d := .lst []) rfl
  exact bindO (bindO (rn_if_t ec hr) rfl) rfl
theorem intsD_eq : ∀ (n : Nat) (lo : Nat), ∀ x ∈ intsD (lo : Int) n, ∃ m : Nat, x = nD m
  | 0, _, x, h => nomatch h
  | n + 1, lo, x, h => by
    rcases List.mem_cons.mp h with rfl | h
    · exact ⟨lo, rfl⟩
    · exact intsD_eq n (lo + 1) x h
theorem k63 (hf : BkFi fi) (h54 : B 54 = some f54) (h57 : B 57 = some f57) (h58 : B 58 = some f58) (h62 : B 62 = some f62) (h63 : B 63 = some f63) (hb : BackOk b) {z : Nat} (hz : z < b.length) (hfree : ∀ p q, p < b.length → q < b.length → letB b bs [z, p, q] = true) : callF B fi sub fu (k+4) 63 [bookD b bs] = .ok .non := by
  have hle := hb.le
  have e58 : callF B fi sub fu (k+2) 58 [bookD b bs, .bl false] = .ok (nD (b.length + 1)) := by
    refine callF_run (f := f58) (ρ := [sh (bookD b bs), sh (.bl false)]) h58 rfl rfl ?_
    exact ret_b (bindO (x := D.bl false) rfl (bindO (x := false) rfl (ev_bin (x := nD b.length) (y := nD 1) (fld_kinds hf rfl) rfl))) fun _ => rfl
  have e62 : callF B fi sub fu (k+3) 62 [bookD b bs, .bl false] = .ok .non := by
    refine callF_run (f := f62) (ρ := [sh (bookD b bs), sh (.bl false), none, none, none]) h62 rfl rfl ?_
    obtain ⟨ρ', h1, o, h2⟩ := loop_inv (I := fun ρ => ∃ o : Option OD, ρ = [sh (bookD b bs), sh (.bl false), o, none, none]) (f := fun x ρ => (bindT (.n 2) x ρ).bind fun ρ => rns (tb B fi sub fu (k+2)) (.cons (.fr (.n 3) (.e (.call 57 (.cons (.var 0) (.cons (.var 2) (.cons (.var 1) .nil))))) (.cons (.asg (.n 4) (.call 60 (.cons (.var 0) (.cons (.var 3) .nil)))) (.cons (.ife (.var 4) (.cons (.ret (.call 61 (.cons (.idx (.var 4) (.cI 0)) (.cons (.var 3) .nil)))) .nil) .nil) .nil))) .nil) ρ) (xs := intsD ((1 : Nat) : Int) (b.length + 1)) (ρ := [sh (bookD b bs), sh (.bl false), none, none, none]) ⟨none, rfl⟩ (fun x hx ρ ⟨o, e⟩ => by
      subst e
      obtain ⟨m, rfl⟩ := intsD_eq _ _ x hx
      refine ⟨[sh (bookD b bs), sh (.bl false), sh (nD m), none, none], bindO (x := [sh (bookD b bs), sh (.bl false), sh (nD m), none, none]) rfl (stp (rn_fr (xs := []) (evIt_e (cl (xs := [bookD b bs, nD m, .bl false]) rfl (k57 hf h54 h57 hb hz hfree)) rfl) rfl rfl) rfl), _, rfl⟩)
    have hi : evIt (tb B fi sub fu (k+2)) (.r2 (.cI 1) (.bin .add (.call 58 (.cons (.var 0) (.cons (.var 1) .nil))) (.cI 1))) [sh (bookD b bs), sh (.bl false), none, none, none] = .ok (intsD ((1 : Nat) : Int) (b.length + 1)) := by
      have e1 := evIt_r2 (T := tb B fi sub fu (k+2)) (ρ := [sh (bookD b bs), sh (.bl false), none, none, none]) (a := .cI 1) (b := .bin .add (.call 58 (.cons (.var 0) (.cons (.var 1) .nil))) (.cI 1)) (i := 1) (j := ((b.length + 1 + 1 : Nat) : Int)) rfl (evn_add (x := b.length + 1) (y := 1) (cl (xs := [bookD b bs, .bl false]) rfl e58) rfl) (by
        have := smallI_nat (m := b.length + 1 + 1) (by omega)
        rw [this]; rfl)
      rw [e1, show (((b.length + 1 + 1 : Nat) : Int) - 1).toNat = b.length + 1 by omega]
      rfl
    refine stepB (rn_fr hi rfl h1) ?_
    subst h2
    exact ret_b rfl fun _ => rfl
  refine callF_run (f := f63) (ρ := [sh (bookD b bs)]) h63 rfl rfl ?_
  exact ret_b (cl (xs := [bookD b bs, .bl false]) rfl e62) fun _ => rfl
end
end PD.Core
end

section
set_option Elab.async false
set_option linter.all false
set_option maxRecDepth 100000
namespace K80
open PySem PD
-- _law_cell ['script', 'k']
def b0 : Sts := (.cons (.ife (.cmp .lt (.var 1) (.bi .len (.cons (.var 0) .nil))) (.cons (.ret (.idx (.var 0) (.var 1))) .nil) .nil) (.cons (.ret (.cI 0)) .nil))
def f0 : FnI := ⟨2, 2, none, b0, none⟩
-- _law_numbers ['script', 'at', 'many']
def b1 : Sts := (.cons (.asg (.n 3) (.bi .abs (.cons (.call 0 (.cons (.var 0) (.cons (.var 1) .nil))) .nil))) (.cons (.asg (.n 4) (.cmp .ge (.var 3) (.bin .pow (.cI 10) (.cI 18)))) (.cons (.asg (.n 5) (.lst .nil)) (.cons (.fr (.n 6) (.r1 (.var 2)) (.cons (.ife (.and (.var 4) (.cmp .eq (.var 3) (.cI 0))) (.cons (.asg (.n 4) (.cB false)) (.cons (.asg (.n 3) (.bin .add (.bi .abs (.cons (.call 0 (.cons (.var 0) (.cons (.bin .add (.var 1) (.cI 1)) .nil))) .nil)) (.var 6))) .nil)) .nil) (.cons (.ife (.var 4) (.cons (.app 5 (.bin .mod (.bi .intOf (.cons (.var 3) .nil)) (.cI 840))) (.cons (.asg (.n 3) (.bin .fdiv (.var 3) (.cI 840))) .nil)) (.cons (.asg (.n 3) (.bin .mod (.bi .intOf (.cons (.bin .add (.bin .add (.bin .mul (.var 3) (.cI 48271)) (.bin .mul (.cI 7) (.var 6))) (.cI 11)) .nil)) (.cI 2147483647))) (.cons (.app 5 (.bin .fdiv (.var 3) (.cI 13))) .nil))) .nil))) (.cons (.ret (.var 5)) .nil)))))
def f1 : FnI := ⟨3, 7, none, b1, none⟩
-- all_rows ['many', 'bound']
def b2 : Sts := (.cons (.asg (.n 2) (.lst (.cons (.tup .nil) .nil))) (.cons (.whl (.cmp .lt (.bi .len (.cons (.idx (.var 2) (.cI 0)) .nil)) (.var 0)) (.cons (.asg (.n 2) (.lc2 [3, 4] [4] (.n 3) (.e (.var 2)) .nil (.n 4) (.r1 (.var 1)) .nil (.bin .add (.var 3) (.tup (.cons (.var 4) .nil))))) .nil)) (.cons (.ret (.var 2)) .nil)))
def f2 : FnI := ⟨2, 5, none, b2, none⟩
-- is_whole ['thing']
def b3 : Sts := (.cons (.ret (.and (.isi (.var 0) .int) (.not (.isi (.var 0) .bool)))) .nil)
def f3 : FnI := ⟨1, 1, none, b3, none⟩
-- is_below ['thing', 'bound']
def b4 : Sts := (.cons (.ret (.and (.call 3 (.cons (.var 0) .nil)) (.cmp2 .le .lt (.cI 0) (.var 0) (.var 1)))) .nil)
def f4 : FnI := ⟨2, 2, none, b4, none⟩
-- is_back ['thing']
def b5 : Sts := (.cons (.ife (.or (.not (.isi (.var 0) .tuple)) (.not (.cmp2 .le .le (.cI 1) (.bi .len (.cons (.var 0) .nil)) (.gI "MOST_KINDS" 4)))) (.cons (.ret (.cB false)) .nil) .nil) (.cons (.ife (.not (.bi .all (.cons (.lc [1] (.n 1) (.e (.var 0)) .nil (.call 4 (.cons (.var 1) (.cons (.bi .len (.cons (.var 0) .nil)) .nil)))) .nil))) (.cons (.ret (.cB false)) .nil) .nil) (.cons (.ret (.bi .all (.cons (.lc [1] (.n 1) (.r1 (.bi .len (.cons (.var 0) .nil))) .nil (.cmp .eq (.idx (.var 0) (.idx (.var 0) (.var 1))) (.var 1))) .nil))) .nil)))
def f5 : FnI := ⟨1, 2, none, b5, none⟩
-- are_below ['thing', 'many', 'bound']
def b6 : Sts := (.cons (.ife (.or (.not (.isi (.var 0) .tuple)) (.cmp .ne (.bi .len (.cons (.var 0) .nil)) (.var 1))) (.cons (.ret (.cB false)) .nil) .nil) (.cons (.ret (.bi .all (.cons (.lc [3] (.n 3) (.e (.var 0)) .nil (.call 4 (.cons (.var 3) (.cons (.var 2) .nil)))) .nil))) .nil))
def f6 : FnI := ⟨3, 4, none, b6, none⟩
-- orders_of ['back', 'trio']
def b7 : Sts := (.cons (.asg (.t (.cons (.n 2) (.cons (.n 3) (.cons (.n 4) .nil)))) (.var 1)) (.cons (.ret (.lst (.cons (.tup (.cons (.var 2) (.cons (.var 3) (.cons (.var 4) .nil)))) (.cons (.tup (.cons (.idx (.var 0) (.var 2)) (.cons (.var 4) (.cons (.var 3) .nil)))) (.cons (.tup (.cons (.var 4) (.cons (.idx (.var 0) (.var 3)) (.cons (.var 2) .nil)))) (.cons (.tup (.cons (.idx (.var 0) (.var 3)) (.cons (.idx (.var 0) (.var 2)) (.cons (.idx (.var 0) (.var 4)) .nil)))) (.cons (.tup (.cons (.var 3) (.cons (.idx (.var 0) (.var 4)) (.cons (.idx (.var 0) (.var 2)) .nil)))) (.cons (.tup (.cons (.idx (.var 0) (.var 4)) (.cons (.var 2) (.cons (.idx (.var 0) (.var 3)) .nil)))) .nil)))))))) .nil))
def f7 : FnI := ⟨2, 5, none, b7, none⟩
-- are_barred ['back', 'thing']
def b8 : Sts := (.cons (.ife (.or (.not (.isi (.var 1) .tuple)) (.not (.bi .all (.cons (.lc [3] (.n 3) (.e (.var 1)) .nil (.call 6 (.cons (.var 3) (.cons (.cI 3) (.cons (.bi .len (.cons (.var 0) .nil)) .nil))))) .nil)))) (.cons (.ret (.cB false)) .nil) .nil) (.cons (.ife (.not (.bi .all (.cons (.lc [3] (.n 3) (.e (.var 1)) .nil (.cmp .eq (.var 3) (.bi .min1 (.cons (.call 7 (.cons (.var 0) (.cons (.var 3) .nil))) .nil)))) .nil))) (.cons (.ret (.cB false)) .nil) .nil) (.cons (.ret (.bi .all (.cons (.lc [2] (.n 2) (.r2 (.cI 1) (.bi .len (.cons (.var 1) .nil))) .nil (.cmp .lt (.idx (.var 1) (.bin .sub (.var 2) (.cI 1))) (.idx (.var 1) (.var 2)))) .nil))) .nil)))
def f8 : FnI := ⟨2, 4, none, b8, none⟩
-- Book.__init__ ['self', 'back', 'barred']
def b9 : Sts := (.cons (.ife (.not (.call 5 (.cons (.var 1) .nil))) (.cons .nev .nil) .nil) (.cons (.ife (.not (.call 8 (.cons (.var 1) (.cons (.var 2) .nil)))) (.cons .nev .nil) .nil) (.cons (.fset "back" (.var 1)) (.cons (.fset "barred" (.var 2)) (.cons (.fset "kinds" (.bi .len (.cons (.var 1) .nil))) (.cons (.fset "lets" (.newD true)) (.cons (.fset "known_knit" .cN) (.cons (.fr (.n 3) (.e (.call 2 (.cons (.cI 3) (.cons (.bi .len (.cons (.var 1) .nil)) .nil)))) (.cons (.ife (.cmp .notin (.bi .min1 (.cons (.call 7 (.cons (.var 1) (.cons (.var 3) .nil))) .nil)) (.var 2)) (.cons (.fsub "lets" (.var 3) (.cB true)) .nil) .nil) .nil)) .nil))))))))
def f9 : FnI := ⟨3, 4, some 0, b9, none⟩
-- _law_backs []
def b10 : Sts := (.cons (.asg (.n 0) (.lst (.cons (.tup (.cons (.cI 0) .nil)) (.cons (.tup (.cons (.cI 0) (.cons (.cI 1) .nil))) (.cons (.tup (.cons (.cI 1) (.cons (.cI 0) .nil))) (.cons (.tup (.cons (.cI 0) (.cons (.cI 1) (.cons (.cI 2) .nil)))) (.cons (.tup (.cons (.cI 1) (.cons (.cI 0) (.cons (.cI 2) .nil)))) (.cons (.tup (.cons (.cI 2) (.cons (.cI 1) (.cons (.cI 0) .nil)))) (.cons (.tup (.cons (.cI 0) (.cons (.cI 2) (.cons (.cI 1) .nil)))) (.cons (.tup (.cons (.cI 0) (.cons (.cI 1) (.cons (.cI 2) (.cons (.cI 3) .nil))))) (.cons (.tup (.cons (.cI 1) (.cons (.cI 0) (.cons (.cI 2) (.cons (.cI 3) .nil))))) .nil))))))))))) (.cons (.asg (.n 0) (.bin .add (.var 0) (.lst (.cons (.tup (.cons (.cI 2) (.cons (.cI 1) (.cons (.cI 0) (.cons (.cI 3) .nil))))) (.cons (.tup (.cons (.cI 3) (.cons (.cI 1) (.cons (.cI 2) (.cons (.cI 0) .nil))))) (.cons (.tup (.cons (.cI 0) (.cons (.cI 2) (.cons (.cI 1) (.cons (.cI 3) .nil))))) (.cons (.tup (.cons (.cI 0) (.cons (.cI 3) (.cons (.cI 2) (.cons (.cI 1) .nil))))) (.cons (.tup (.cons (.cI 0) (.cons (.cI 1) (.cons (.cI 3) (.cons (.cI 2) .nil))))) (.cons (.tup (.cons (.cI 1) (.cons (.cI 0) (.cons (.cI 3) (.cons (.cI 2) .nil))))) (.cons (.tup (.cons (.cI 2) (.cons (.cI 3) (.cons (.cI 0) (.cons (.cI 1) .nil))))) .nil)))))))))) (.cons (.ret (.bin .add (.var 0) (.lst (.cons (.tup (.cons (.cI 3) (.cons (.cI 2) (.cons (.cI 1) (.cons (.cI 0) .nil))))) .nil)))) .nil)))
def f10 : FnI := ⟨0, 1, none, b10, none⟩
-- _law_is_number ['thing']
def b15 : Sts := (.cons (.ret (.and (.isi (.var 0) .int) (.not (.isi (.var 0) .bool)))) .nil)
def f15 : FnI := ⟨1, 1, none, b15, none⟩
-- choices_of ['n', 'm']
def b30 : Sts := (.cons (.asg (.n 2) (.cI 1)) (.cons (.fr (.n 3) (.r1 (.var 1)) (.cons (.asg (.n 2) (.bin .fdiv (.bin .mul (.var 2) (.bin .sub (.var 0) (.var 3))) (.bin .add (.var 3) (.cI 1)))) .nil)) (.cons (.ret (.var 2)) .nil)))
def f30 : FnI := ⟨2, 4, none, b30, none⟩
-- is_number ['thing', 'least', 'most']
def b46 : Sts := (.cons (.ret (.and (.call 3 (.cons (.var 0) .nil)) (.cmp2 .le .le (.var 1) (.var 0) (.var 2)))) .nil)
def f46 : FnI := ⟨3, 3, none, b46, none⟩
-- _law_gcd ['one', 'other']
def b67 : Sts := (.cons (.whl (.cmp .gt (.var 1) (.cI 0)) (.cons (.par 0 1 (.var 1) (.bin .sub (.var 0) (.bin .mul (.bin .fdiv (.var 0) (.var 1)) (.var 1)))) .nil)) (.cons (.ret (.var 0)) .nil))
def f67 : FnI := ⟨2, 2, none, b67, none⟩
-- free_asked ['book']
def b68 : Sts := (.cons (.ife (.fld (.var 0) "barred") (.cons (.rse 2 .nil) .nil) .nil) .nil)
def f68 : FnI := ⟨1, 1, none, b68, none⟩
-- power_of ['base', 'many']
def b69 : Sts := (.cons (.asg (.n 2) (.cI 1)) (.cons (.fr (.n 3) (.r1 (.var 1)) (.cons (.asg (.n 2) (.bin .mul (.var 2) (.var 0))) .nil)) (.cons (.ret (.var 2)) .nil)))
def f69 : FnI := ⟨2, 4, none, b69, none⟩
-- bound_of ['kinds', 'n', 'm']
def b70 : Sts := (.cons (.asg (.n 3) (.call 69 (.cons (.var 0) (.cons (.var 2) .nil)))) (.cons (.ret (.tup (.cons (.bin .mul (.bin .mul (.call 30 (.cons (.var 1) (.cons (.var 2) .nil))) (.var 3)) (.call 69 (.cons (.bin .sub (.var 3) (.cI 1)) (.cons (.bin .sub (.var 1) (.var 2)) .nil)))) (.cons (.call 69 (.cons (.var 3) (.cons (.bin .sub (.var 1) (.var 2)) .nil))) .nil)))) .nil))
def f70 : FnI := ⟨3, 4, none, b70, none⟩
-- divisor_of ['one', 'other']
def b71 : Sts := (.cons (.whl (.cmp .gt (.var 1) (.cI 0)) (.cons (.par 0 1 (.var 1) (.bin .mod (.var 0) (.var 1))) .nil)) (.cons (.ret (.var 0)) .nil))
def f71 : FnI := ⟨2, 2, none, b71, none⟩
-- is_share ['thing']
def b72 : Sts := (.cons (.ife (.or (.not (.isi (.var 0) .tuple)) (.or (.cmp .ne (.bi .len (.cons (.var 0) .nil)) (.cI 2)) (.not (.bi .all (.cons (.lc [3] (.n 3) (.e (.var 0)) .nil (.call 3 (.cons (.var 3) .nil))) .nil))))) (.cons (.ret (.cB false)) .nil) .nil) (.cons (.asg (.t (.cons (.n 1) (.cons (.n 2) .nil))) (.var 0)) (.cons (.ret (.and (.cmp3 .lt .le .lt (.cI 0) (.var 1) (.var 2) (.bin .pow (.cI 10) (.cI 6))) (.cmp .eq (.call 71 (.cons (.var 1) (.cons (.var 2) .nil))) (.cI 1)))) .nil)))
def f72 : FnI := ⟨1, 4, none, b72, none⟩
-- is_falling ['kinds', 'n', 'm']
def b73 : Sts := (.cons (.asg (.n 3) (.call 69 (.cons (.var 0) (.cons (.var 2) .nil)))) (.cons (.ret (.cmp .lt (.bin .mul (.bin .add (.var 1) (.cI 1)) (.bin .sub (.var 3) (.cI 1))) (.bin .mul (.bin .sub (.bin .add (.var 1) (.cI 1)) (.var 2)) (.var 3)))) .nil))
def f73 : FnI := ⟨3, 4, none, b73, none⟩
-- enough ['book', 'm', 'share']
def b74 : Sts := (.cons (.exp (.call 68 (.cons (.var 0) .nil))) (.cons (.ife (.not (.call 46 (.cons (.var 1) (.cons (.cI 0) (.cons (.cI 4) .nil))))) (.cons (.rse 1 .nil) .nil) .nil) (.cons (.ife (.not (.call 72 (.cons (.var 2) .nil))) (.cons (.rse 3 .nil) .nil) .nil) (.cons (.asg (.n 3) .cN) (.cons (.asg (.t (.cons (.n 4) (.cons (.n 5) .nil))) (.call 70 (.cons (.fld (.var 0) "kinds") (.cons (.var 1) (.cons (.var 1) .nil))))) (.cons (.asg (.n 6) (.call 69 (.cons (.fld (.var 0) "kinds") (.cons (.var 1) .nil)))) (.cons (.fr (.n 7) (.r2 (.var 1) (.bin .add (.gI "MOST_PERSONS" 1000) (.cI 1))) (.cons (.ife (.cmp .ge (.bin .mul (.bi .min2 (.cons (.var 4) (.cons (.var 5) .nil))) (.idx (.var 2) (.cI 1))) (.bin .mul (.idx (.var 2) (.cI 0)) (.var 5))) (.cons (.asg (.n 3) .cN) .nil) (.cons (.ife (.isN (.var 3)) (.cons (.asg (.n 3) (.var 7)) .nil) .nil) .nil)) (.cons (.asg (.n 4) (.bin .fdiv (.bin .mul (.bin .mul (.var 4) (.bin .add (.var 7) (.cI 1))) (.bin .sub (.var 6) (.cI 1))) (.bin .sub (.bin .add (.var 7) (.cI 1)) (.var 1)))) (.cons (.asg (.n 5) (.bin .mul (.var 5) (.var 6))) .nil)))) (.cons (.ife (.or (.isN (.var 3)) (.not (.call 73 (.cons (.fld (.var 0) "kinds") (.cons (.gI "MOST_PERSONS" 1000) (.cons (.var 1) .nil)))))) (.cons (.rse 5 (.cons (.gI "MOST_PERSONS" 1000) .nil)) .nil) .nil) (.cons (.ret (.var 3)) .nil)))))))))
def f74 : FnI := ⟨3, 8, none, b74, none⟩
-- _law_told ['book', 'm', 'share']
def b75 : Sts := (.cons (.tryT (.cons (.ret (.call 74 (.cons (.var 0) (.cons (.var 1) (.cons (.var 2) .nil))))) .nil) 5 3 (.cons (.ife (.cmp .eq (.fldE 3 5) (.cI 1000)) (.cons (.ret (.neg (.cI 1))) .nil) .nil) (.cons (.ret (.neg (.cI 3))) .nil)) 3 (.cons (.ret (.neg (.cI 2))) .nil)) .nil)
def f75 : FnI := ⟨3, 4, none, b75, none⟩
-- _law_is_below ['bound', 'share']
def b76 : Sts := (.cons (.ret (.cmp .lt (.bin .mul (.idx (.var 0) (.cI 0)) (.idx (.var 1) (.cI 1))) (.bin .mul (.idx (.var 1) (.cI 0)) (.idx (.var 0) (.cI 1))))) .nil)
def f76 : FnI := ⟨2, 2, none, b76, none⟩
-- fraction ['top', 'bottom']
def b77 : Sts := (.cons (.asg (.n 2) (.call 71 (.cons (.var 0) (.cons (.var 1) .nil)))) (.cons (.ret (.tup (.cons (.bin .fdiv (.var 0) (.var 2)) (.cons (.bin .fdiv (.var 1) (.var 2)) .nil)))) .nil))
def f77 : FnI := ⟨2, 3, none, b77, none⟩
-- lack_bound ['book', 'n', 'm']
def b78 : Sts := (.cons (.exp (.call 68 (.cons (.var 0) .nil))) (.cons (.ife (.or (.not (.call 46 (.cons (.var 1) (.cons (.cI 0) (.cons (.gI "MOST_PERSONS" 1000) .nil))))) (.or (.not (.call 46 (.cons (.var 2) (.cons (.cI 0) (.cons (.cI 4) .nil))))) (.cmp .gt (.var 2) (.var 1)))) (.cons (.rse 1 .nil) .nil) .nil) (.cons (.asg (.t (.cons (.n 3) (.cons (.n 4) .nil))) (.call 70 (.cons (.fld (.var 0) "kinds") (.cons (.var 1) (.cons (.var 2) .nil))))) (.cons (.ret (.call 77 (.cons (.bi .min2 (.cons (.var 3) (.cons (.var 4) .nil))) (.cons (.var 4) .nil)))) .nil))))
def f78 : FnI := ⟨3, 5, none, b78, none⟩
-- law ['script']
def b79 : Sts := (.cons (.asg (.n 1) (.call 1 (.cons (.var 0) (.cons (.cI 0) (.cons (.cI 30) .nil))))) (.cons (.asg (.n 2) (.idx (.call 10 .nil) (.bin .mod (.idx (.var 1) (.cI 0)) (.cI 17)))) (.cons (.asg (.n 3) (.mk 0 9 (.cons (.var 2) (.cons (.tup .nil) .nil)))) (.cons (.asg (.n 4) (.bin .mod (.idx (.var 1) (.cI 1)) (.cI 3))) (.cons (.asg (.n 5) (.cI 60)) (.cons (.ife (.cmp .eq (.bin .mod (.idx (.var 1) (.cI 2)) (.cI 4)) (.cI 1)) (.cons (.asg (.n 5) (.bin .pow (.cI 10) (.cI 6))) .nil) .nil) (.cons (.asg (.n 6) (.bin .add (.cI 1) (.bin .mod (.idx (.var 1) (.cI 3)) (.bin .sub (.var 5) (.cI 1))))) (.cons (.asg (.n 7) (.bin .add (.cI 1) (.bin .mod (.idx (.var 1) (.cI 4)) (.var 6)))) (.cons (.asg (.n 8) (.call 67 (.cons (.var 7) (.cons (.var 6) .nil)))) (.cons (.asg (.n 9) (.tup (.cons (.bin .fdiv (.var 7) (.var 8)) (.cons (.bin .fdiv (.var 6) (.var 8)) .nil)))) (.cons (.asg (.n 10) (.call 75 (.cons (.var 3) (.cons (.var 4) (.cons (.var 9) .nil))))) (.cons (.ife (.not (.call 15 (.cons (.var 10) .nil))) (.cons (.ret (.cB false)) .nil) .nil) (.cons (.ife (.cmp .eq (.var 10) (.neg (.cI 1))) (.cons (.ife (.call 76 (.cons (.call 78 (.cons (.var 3) (.cons (.cI 1000) (.cons (.var 4) .nil)))) (.cons (.var 9) .nil))) (.cons (.ret (.cB false)) .nil) .nil) .nil) (.cons (.ife (.or (.cmp .lt (.var 10) (.var 4)) (.cmp .gt (.var 10) (.cI 1000))) (.cons (.ret (.cB false)) .nil) .nil) (.cons (.fr (.n 11) (.r2 (.var 10) (.bi .min2 (.cons (.cI 1000) (.cons (.bin .add (.var 10) (.cI 12)) .nil)))) (.cons (.ife (.not (.call 76 (.cons (.call 78 (.cons (.var 3) (.cons (.var 11) (.cons (.var 4) .nil)))) (.cons (.var 9) .nil)))) (.cons (.ret (.cB false)) .nil) .nil) .nil)) (.cons (.ife (.and (.cmp .gt (.var 10) (.var 4)) (.call 76 (.cons (.call 78 (.cons (.var 3) (.cons (.bin .sub (.var 10) (.cI 1)) (.cons (.var 4) .nil)))) (.cons (.var 9) .nil)))) (.cons (.ret (.cB false)) .nil) .nil) .nil)))) (.cons (.asg (.n 12) (.idx (.lst (.cons (.tup (.cons (.cI 0) (.cons (.cI 1) .nil))) (.cons (.tup (.cons (.cI 2) (.cons (.cI 4) .nil))) (.cons (.tup (.cons (.cI 3) (.cons (.cI 2) .nil))) (.cons (.tup (.cons (.cI 1) (.cons (.cI 0) .nil))) (.cons (.tup (.cons (.cI 1) (.cons (.bin .pow (.cI 10) (.cI 6)) .nil))) (.cons (.lst (.cons (.cI 1) (.cons (.cI 2) .nil))) (.cons (.tup (.cons (.cB true) (.cons (.cI 1) .nil))) (.cons (.tup (.cons (.cI 1) (.cons (.cI 2) (.cons (.cI 3) .nil)))) (.cons .cN (.cons (.tup (.cons (.neg (.cI 1)) (.cons (.cI 2) .nil))) .nil))))))))))) (.bin .mod (.idx (.var 1) (.cI 5)) (.cI 10)))) (.cons (.ret (.cmp .eq (.call 75 (.cons (.var 3) (.cons (.var 4) (.cons (.var 12) .nil)))) (.neg (.cI 2)))) .nil)))))))))))))))
def f79 : FnI := ⟨1, 13, none, b79, none⟩
def cfL : List (List Str) := [["back", "barred", "kinds", "lets", "known_knit"]]
def fi (c : Nat) (x : Str) : Option Nat := idxS ((cfL[c]?).getD []) x
def sub (a b : Nat) : Bool := a == b || (b == 0 || b == 1000)
def B : Nat → Option FnI
  | 0 => some f0
  | 1 => some f1
  | 2 => some f2
  | 3 => some f3
  | 4 => some f4
  | 5 => some f5
  | 6 => some f6
  | 7 => some f7
  | 8 => some f8
  | 9 => some f9
  | 10 => some f10
  | 15 => some f15
  | 30 => some f30
  | 46 => some f46
  | 67 => some f67
  | 68 => some f68
  | 69 => some f69
  | 70 => some f70
  | 71 => some f71
  | 72 => some f72
  | 73 => some f73
  | 74 => some f74
  | 75 => some f75
  | 76 => some f76
  | 77 => some f77
  | 78 => some f78
  | 79 => some f79
  | _ => none
def lawI : Nat := 79
end K80
end

section
set_option Elab.async false
set_option linter.all false
set_option maxRecDepth 100000
namespace K80
open PySem PD PD.Core
@[irreducible] def fu : Nat := 2 ^ 9000
abbrev C (k : Nat) (f : Nat) (ds : List D) : R D := callF B fi sub fu k f ds
abbrev Tb (k : Nat) : Tab := tb B fi sub fu k
theorem fu_ok : fu = (fu - 4) + 4 := by
  have : 4 ≤ fu := by unfold fu; decide
  omega
theorem hf : BkFi fi := fun _ => rfl
theorem c3i {k : Nat} (x : Int) : C (k+1) 3 [.int x] = .ok (.bl true) := rfl
/-- a book without barred trios -/
abbrev bk (A : D) (kd : Int) (dl e : D) : D := .obj 0 [A, .tup [], .int kd, dl, e]
theorem c68 {k : Nat} (a c d e : D) : C (k+1) 68 [.obj 0 [a, .tup [], c, d, e]] = .ok .non := rfl
theorem c46 {k : Nat} (x a b : Int) : C (k+2) 46 [.int x, .int a, .int b] = .ok (.bl (!decide (x < a) && !decide (b < x))) := by
  refine callF_run (f := f46) (ρ := [sh (.int x), sh (.int a), sh (.int b)]) rfl rfl rfl ?_
  exact ret_b (ev_and_t (cl rfl (c3i (k := k) x)) (ev_cmp2 rfl rfl (le_i _ _) rfl (le_i _ _))) fun _ => rfl
theorem c46t {k : Nat} {x a b : Int} (h : a ≤ x) (h2 : x ≤ b) : C (k+2) 46 [.int x, .int a, .int b] = .ok (.bl true) := by
  rw [c46, decide_eq_false (show ¬ x < a by omega), decide_eq_false (show ¬ b < x by omega)]; rfl
theorem smallI_of {m : Nat} (h : m ≤ 1000) : smallI (m : Int) = true := by
  show (decide _ && decide _) = true
  rw [decide_eq_true (by omega), decide_eq_true (by omega)]; rfl
theorem c69 {k : Nat} (b : Int) (hb : small b = true) (m : Nat) (hm : m ≤ 1000) : C (k+1) 69 [.int b, .int (m : Int)] = .ok (.int (pw b m)) := by
  refine callF_run (f := f69) (ρ := [sh (.int b), sh (.int m), none, none]) rfl rfl rfl ?_
  refine stepB (ρ' := [sh (.int b), sh (.int m), sh (.int 1), none]) rfl ?_
  refine stepB (ρ' := [sh (.int b), sh (.int m), sh (.int (pw b m)), lv none 0 m]) (rn_for (i := m) rfl (smallI_of hm) (loopF_ints m 0 (fun i => [sh (.int b), sh (.int m), sh (.int (pw b i)), lv none 0 i]) fun i hi => ?_)) ?_
  · refine bindO (x := [sh (.int b), sh (.int m), sh (.int (pw b i)), sh (.int (0 + i))]) rfl ?_
    exact stp (rn_asg (x := .int (pw b i * b)) ((ev_bin rfl rfl).trans (mul_i (mulOk_r hb))) rfl rfl rfl) rfl
  · exact ret_b rfl fun _ => rfl
theorem c30 {k : Nat} (n m : Nat) (hn : n ≤ 1000) (hm : m ≤ n) : C (k+1) 30 [.int (n : Int), .int (m : Int)] = .ok (.int (chv n m)) := by
  refine callF_run (f := f30) (ρ := [sh (.int n), sh (.int m), none, none]) rfl rfl rfl ?_
  refine stepB (ρ' := [sh (.int n), sh (.int m), sh (.int 1), none]) rfl ?_
  refine stepB (ρ' := [sh (.int n), sh (.int m), sh (.int (chv n m)), lv none 0 m]) (rn_for (i := m) rfl (smallI_of (by omega)) (loopF_ints m 0 (fun i => [sh (.int n), sh (.int m), sh (.int (chv n i)), lv none 0 i]) fun i hi => ?_)) ?_
  · refine bindO (x := [sh (.int n), sh (.int m), sh (.int (chv n i)), sh (.int (0 + i))]) rfl ?_
    have h1 : small ((n : Int) - (0 + (i : Int))) = true := small_of (by omega) (by omega)
    have h2 : ((0 + (i : Int)) + 1).natAbs.log2 < 9000 := log_small (by omega) (by omega)
    exact stp (rn_asg (x := .int (chv n (i + 1))) ((ev_bin ((ev_bin rfl rfl).trans (mul_i (mulOk_r h1))) rfl).trans (fdiv_i (by omega) h2)) rfl rfl rfl) rfl
  · exact ret_b rfl fun _ => rfl
theorem fu_eq : fu = 2 ^ 9000 := by unfold fu; rfl
theorem c71 {k : Nat} (a b : Nat) (h : b < fu) : C (k+1) 71 [.int (a : Int), .int (b : Int)] = .ok (.int (Nat.gcd b a : Nat)) := by
  refine callF_run (f := f71) (ρ := [sh (.int a), sh (.int b)]) rfl rfl rfl ?_
  obtain ⟨z, hz⟩ := loopW_gcd (cnd := fun ρ => (ev (Tb k) (.cmp .gt (.var 1) (.cI 0)) ρ).bind truR) (f := fun ρ => rns (Tb k) (.cons (.par 0 1 (.var 1) (.bin .mod (.var 0) (.var 1))) .nil) ρ) (P := fun a b => [sh (.int (a : Int)), sh (.int (b : Int))])
    (fun a b => bindO ((ev_cmp rfl rfl).trans (gt_i _ _)) rfl) (a + b)
    (fun a b _ _ hb => stp (ρ' := [sh (.int (b : Int)), sh (.int ((a % b : Nat) : Int))]) (rn_par rfl ((ev_bin rfl rfl).trans (mod_i (Int.natCast_pos.mpr hb))) rfl) rfl) fu a b h (by omega) (by omega)
  refine stepB (ρ' := [sh (.int ((Nat.gcd b a : Nat) : Int)), sh (.int (z : Int))]) hz ?_
  exact ret_b rfl fun _ => rfl
theorem c77 {k : Nat} (t b : Nat) (hb : 0 < b) (hb2 : b < 2 ^ 8500) : C (k+2) 77 [.int (t : Int), .int (b : Int)] = .ok (.tup [.int ((t / Nat.gcd b t : Nat) : Int), .int ((b / Nat.gcd b t : Nat) : Int)]) := by
  have hg : 0 < Nat.gcd b t := Nat.gcd_pos_of_pos_left t hb
  have hg2 : Nat.gcd b t ≤ b := Nat.gcd_le_left t hb
  have hl : ((Nat.gcd b t : Nat) : Int).natAbs.log2 < 9000 := by
    show (Nat.gcd b t).log2 < 9000
    refine Nat.lt_trans ((Nat.log2_lt (Nat.pos_iff_ne_zero.mp hg)).mpr (Nat.lt_of_le_of_lt hg2 hb2)) (by decide)
  have hfu : b < fu := by
    rw [fu_eq]
    exact Nat.lt_trans hb2 (Nat.pow_lt_pow_right (by decide) (by decide))
  refine callF_run (f := f77) (ρ := [sh (.int t), sh (.int b), none]) rfl rfl rfl ?_
  refine stepB (ρ' := [sh (.int t), sh (.int b), sh (.int (Nat.gcd b t : Nat))]) (rn_asg (cl rfl (c71 (k := k) t b hfu)) rfl rfl rfl) ?_
  refine ret_b (bindO (evsC ((ev_bin rfl rfl).trans (fdiv_i (Int.natCast_pos.mpr hg) hl)) (evs1 ((ev_bin rfl rfl).trans (fdiv_i (Int.natCast_pos.mpr hg) hl)))) (guardR_t rfl)) fun _ => rfl
theorem c70 {k : Nat} (kd : Int) (hk0 : 1 ≤ kd) (hk : kd ≤ 4) (n m d : Nat) (hn : n ≤ 1000) (hm : m ≤ n) (hm4 : m ≤ 4) (hd : (n : Int) - (m : Int) = (d : Int)) :
    C (k+2) 70 [.int kd, .int (n : Int), .int (m : Int)] = .ok (.tup [.int (chv n m * pw kd m * pw (pw kd m - 1) d), .int (pw (pw kd m) d)]) := by
  obtain ⟨hr0, hr1⟩ := pw_le (b := kd) (w := 2) (by omega) (by omega) m
  have hr2 : pw kd m ≤ 2 ^ 8 := Int.le_trans hr1 (pow_le2 (by omega))
  have hr3 := pw_pos (b := kd) (by omega) m
  obtain ⟨hc0, hc1⟩ := chv_le hn m hm
  have hs : small kd = true := small_of (by omega) (by omega)
  have hs1 : small (pw kd m) = true := small_of (by omega) (by omega)
  have hs2 : small (pw kd m - 1) = true := small_of (by omega) (by omega)
  have hc2 : chv n m ≤ 2 ^ 40 := Int.le_trans hc1 (pow_le2 (by omega))
  have hcr : chv n m * pw kd m ≤ 2 ^ 40 * 2 ^ 8 := Int.mul_le_mul hc2 hr2 hr0 (by omega)
  have hcr0 : 0 ≤ chv n m * pw kd m := Int.mul_nonneg hc0 hr0
  have hs3 : small (chv n m * pw kd m) = true := small_of (by omega) (by omega)
  refine callF_run (f := f70) (ρ := [sh (.int kd), sh (.int n), sh (.int m), none]) rfl rfl rfl ?_
  refine stepB (ρ' := [sh (.int kd), sh (.int n), sh (.int m), sh (.int (pw kd m))]) (rn_asg (i := 3) (e := .call 69 (.cons (.var 0) (.cons (.var 2) .nil))) (x := .int (pw kd m)) (cl (xs := [.int kd, .int (m : Int)]) rfl (c69 (k := k) kd hs m (Nat.le_trans hm4 (by decide)))) rfl rfl rfl) ?_
  have e1 : evs (Tb (k+1)) (.cons (.bin .sub (.var 3) (.cI 1)) (.cons (.bin .sub (.var 1) (.var 2)) .nil)) [sh (.int kd), sh (.int n), sh (.int m), sh (.int (pw kd m))] = .ok [.int (pw kd m - 1), .int (d : Int)] := by
    rw [← hd]; rfl
  have e2 : evs (Tb (k+1)) (.cons (.var 3) (.cons (.bin .sub (.var 1) (.var 2)) .nil)) [sh (.int kd), sh (.int n), sh (.int m), sh (.int (pw kd m))] = .ok [.int (pw kd m), .int (d : Int)] := by
    rw [← hd]; rfl
  refine ret_b (bindO (evsC ((ev_bin ((ev_bin (cl rfl (c30 (k := k) n m hn hm)) rfl).trans (mul_i (mulOk_r hs1))) (cl e1 (c69 (k := k) _ hs2 d (by omega)))).trans (mul_i (mulOk_l hs3))) (evs1 (cl e2 (c69 (k := k) _ hs1 d (by omega))))) (guardR_t rfl)) fun _ => rfl
theorem c78 {k : Nat} (A dl e : D) (kd : Int) (hk0 : 1 ≤ kd) (hk : kd ≤ 4) (n m d : Nat) (hn : n ≤ 1000) (hm : m ≤ n) (hm4 : m ≤ 4) (hd : (n : Int) - (m : Int) = (d : Int))
    (t b : Nat) (ht : chv n m * pw kd m * pw (pw kd m - 1) d = (t : Int)) (hb : pw (pw kd m) d = (b : Int)) (hb0 : 0 < b) (hb2 : b < 2 ^ 8500) (x : Nat) (hx : x = if b < t then b else t) :
    C (k+3) 78 [bk A kd dl e, .int (n : Int), .int (m : Int)] = .ok (.tup [.int ((x / Nat.gcd b x : Nat) : Int), .int ((b / Nat.gcd b x : Nat) : Int)]) := by
  refine callF_run (f := f78) (ρ := [sh (bk A kd dl e), sh (.int n), sh (.int m), none, none]) rfl rfl rfl ?_
  refine stepB (ρ' := [sh (bk A kd dl e), sh (.int n), sh (.int m), none, none]) (rn_exp (cl (xs := [bk A kd dl e]) rfl (c68 (k := k + 1) A (.int kd) dl e))) ?_
  have g1 : ev (Tb (k+2)) (.not (.call 46 (.cons (.var 1) (.cons (.cI 0) (.cons (.gI "MOST_PERSONS" 1000) .nil))))) [sh (bk A kd dl e), sh (.int n), sh (.int m), none, none] = .ok (.bl false) := evNot (cl (xs := [.int n, .int 0, .int 1000]) rfl (c46t (k := k) (by omega) (by omega)))
  have g2 : ev (Tb (k+2)) (.not (.call 46 (.cons (.var 2) (.cons (.cI 0) (.cons (.cI 4) .nil))))) [sh (bk A kd dl e), sh (.int n), sh (.int m), none, none] = .ok (.bl false) := evNot (cl (xs := [.int m, .int 0, .int 4]) rfl (c46t (k := k) (by omega) (by omega)))
  have g3 : ev (Tb (k+2)) (.cmp .gt (.var 2) (.var 1)) [sh (bk A kd dl e), sh (.int n), sh (.int m), none, none] = .ok (.bl false) := (ev_cmp rfl rfl).trans ((gt_i _ _).trans (by rw [decide_eq_false (by omega)]))
  refine stepB (ρ' := [sh (bk A kd dl e), sh (.int n), sh (.int m), none, none]) (rn_if_n (ev_or_f g1 (ev_or_f g2 g3))) ?_
  have g4 := c70 (k := k) kd hk0 hk n m d hn hm hm4 hd
  rw [ht, hb] at g4
  refine stepB (ρ' := [sh (bk A kd dl e), sh (.int n), sh (.int m), sh (.int (t : Int)), sh (.int (b : Int))]) (rn_asgt (cl (xs := [.int kd, .int n, .int m]) rfl g4) rfl rfl) ?_
  have g5 : ev (Tb (k+2)) (.bi .min2 (.cons (.var 3) (.cons (.var 4) .nil))) [sh (bk A kd dl e), sh (.int n), sh (.int m), sh (.int (t : Int)), sh (.int (b : Int))] = .ok (.int (x : Int)) := by
    refine ev_bi (xs := [.int t, .int b]) rfl ?_
    show R.ok (D.int (if (b : Int) < (t : Int) then (b : Int) else (t : Int))) = _
    rw [hx]
    by_cases hbt : b < t
    · rw [if_pos hbt, if_pos (by omega)]
    · rw [if_neg hbt, if_neg (by omega)]
  exact ret_b (cl (evsC g5 (evs1 rfl)) (c77 (k := k) x b hb0 hb2)) fun _ => rfl
end K80
end

section
set_option Elab.async false
set_option linter.all false
set_option maxRecDepth 100000
namespace K80
open PySem PD PD.Core
theorem ev_cmp3 {T : Tab} {ρ : PD.Env} {a b c d : Ex} {x y z w : D} {o o' o2 : CmpO} {k l j : Bool} (ha : ev T a ρ = .ok x) (hb : ev T b ρ = .ok y) (h1 : cmpD o x y = .ok (.bl k)) (hc : ev T c ρ = .ok z) (h2 : cmpD o' y z = .ok (.bl l)) (hd : ev T d ρ = .ok w) (h3 : cmpD o2 z w = .ok (.bl j)) : ev T (.cmp3 o o' o2 a b c d) ρ = .ok (.bl (k && (l && j))) := by
  refine bindO ha (bindO hb (bindO h1 ?_))
  cases k with
  | false => rfl
  | true =>
    refine bindO hc (bindO h2 ?_)
    cases l with
    | false => rfl
    | true => exact bindO hd h3
/-! shares -/
section
variable {k : Nat}
theorem all72 (k : Nat) (t b : Int) : ev (Tb (k+1)) (.bi .all (.cons (.lc [3] (.n 3) (.e (.var 0)) .nil (.call 3 (.cons (.var 3) .nil))) .nil)) [sh (.tup [.int t, .int b]), none, none, none] = .ok (.bl true) := by
  refine ev_bi (evs1 (ev_lcA (l := [t, b]) (g := .int) (h := fun _ => .bl true) rfl (by show 2 ≤ 100000; decide) fun x _ => ⟨[sh (.tup [.int t, .int b]), none, none, sh (.int x)], rfl, cl (xs := [.int x]) rfl (c3i (k := k) x)⟩)) rfl
theorem g72 (k : Nat) (t b : Int) : ev (Tb (k+1)) (.or (.not (.isi (.var 0) .tuple)) (.or (.cmp .ne (.bi .len (.cons (.var 0) .nil)) (.cI 2)) (.not (.bi .all (.cons (.lc [3] (.n 3) (.e (.var 0)) .nil (.call 3 (.cons (.var 3) .nil))) .nil))))) [sh (.tup [.int t, .int b]), none, none, none] = .ok (.bl false) :=
  ev_or_f (evNot (k := true) rfl) (ev_or_f (ev_ne (i := 2) (j := 2) rfl rfl) (evNot (k := true) (all72 k t b)))
theorem c72n {t b : Int} (h : ¬ (0 < t ∧ t ≤ b ∧ b < 1000000)) : C (k+2) 72 [.tup [.int t, .int b]] = .ok (.bl false) := by
  refine callF_run (f := f72) (ρ := [sh (.tup [.int t, .int b]), none, none, none]) rfl rfl rfl ?_
  refine stepB (rn_if_n (g72 k t b)) ?_
  refine stepB (ρ' := [sh (.tup [.int t, .int b]), sh (.int t), sh (.int b), none]) (rn_asgt rfl rfl rfl) ?_
  refine ret_b (ev_and_f ((ev_cmp3 (x := .int 0) (y := .int t) (z := .int b) (w := .int 1000000) rfl rfl (lt_i _ _) rfl (le_i _ _) rfl (lt_i _ _)).trans ?_)) fun _ => rfl
  refine congrArg (fun z => PD.R.ok (D.bl z)) ?_
  rw [Bool.eq_false_iff]
  intro e
  rw [Bool.and_eq_true, Bool.and_eq_true] at e
  obtain ⟨e1, e2, e3⟩ := e
  have e1 := of_decide_eq_true e1
  have e3 := of_decide_eq_true e3
  have e2 : ¬ (b < t) := fun z => by rw [decide_eq_true z] at e2; exact absurd e2 (by decide)
  exact h ⟨e1, by omega, e3⟩
theorem c72g {t b : Nat} (h1 : 0 < t) (h2 : t ≤ b) (h3 : b < 1000000) : C (k+2) 72 [.tup [.int t, .int b]] = .ok (.bl (decide (Nat.gcd b t = 1))) := by
  refine callF_run (f := f72) (ρ := [sh (.tup [.int t, .int b]), none, none, none]) rfl rfl rfl ?_
  refine stepB (rn_if_n (g72 k t b)) ?_
  refine stepB (ρ' := [sh (.tup [.int t, .int b]), sh (.int t), sh (.int b), none]) (rn_asgt rfl rfl rfl) ?_
  have hfu : b < fu := by
    rw [fu_eq]
    exact Nat.lt_trans h3 (show 1000000 < 2 ^ 9000 from Nat.lt_of_lt_of_le (show 1000000 < 2 ^ 20 by decide) (Nat.pow_le_pow_right (by decide) (by decide)))
  refine ret_b (ev_and_t ((ev_cmp3 (x := .int 0) (y := .int t) (z := .int b) (w := .int 1000000) rfl rfl (lt_i _ _) rfl (le_i _ _) rfl (lt_i _ _)).trans ?_) (evn_eq (y := 1) (cl (xs := [.int t, .int b]) rfl (c71 (k := k) t b hfu)) rfl)) fun _ => rfl
  rw [decide_eq_true (show (0 : Int) < (t : Int) by omega), decide_eq_false (show ¬ ((b : Int) < (t : Int)) by omega), decide_eq_true (show (b : Int) < 1000000 by omega)]; rfl
/-! things that are no shares -/
def bads : List D := [.tup [.int 0, .int 1], .tup [.int 2, .int 4], .tup [.int 3, .int 2], .tup [.int 1, .int 0], .tup [.int 1, .int 1000000], .lst [.int 1, .int 2], .tup [.bl true, .int 1], .tup [.int 1, .int 2, .int 3], .non, .tup [.int (-1), .int 2]]
theorem c72x {x : D} (h : ev (Tb (k+1)) (.or (.not (.isi (.var 0) .tuple)) (.or (.cmp .ne (.bi .len (.cons (.var 0) .nil)) (.cI 2)) (.not (.bi .all (.cons (.lc [3] (.n 3) (.e (.var 0)) .nil (.call 3 (.cons (.var 3) .nil))) .nil))))) [sh x, none, none, none] = .ok (.bl true)) : C (k+2) 72 [x] = .ok (.bl false) := by
  refine callF_run (f := f72) (ρ := [sh x, none, none, none]) rfl rfl rfl ?_
  obtain ⟨ρ', h1⟩ := ret_l (T := Tb (k+1)) (ρ := [sh x, none, none, none]) (e := .cB false) (s := .nil) rfl
  exact bindO (bindO (rn_if_t h h1) rfl) rfl
theorem bads_bad {v : Nat} (hv : v < 10) : ∃ x, bads[v]? = some x ∧ ∀ k, C (k+2) 72 [x] = .ok (.bl false) := by
  have : v = 0 ∨ v = 1 ∨ v = 2 ∨ v = 3 ∨ v = 4 ∨ v = 5 ∨ v = 6 ∨ v = 7 ∨ v = 8 ∨ v = 9 := by omega
  rcases this with rfl | rfl | rfl | rfl | rfl | rfl | rfl | rfl | rfl | rfl
  · exact ⟨_, rfl, fun k => c72n (by omega)⟩
  · exact ⟨_, rfl, fun k => (c72g (t := 2) (b := 4) (by decide) (by decide) (by decide)).trans rfl⟩
  · exact ⟨_, rfl, fun k => c72n (by omega)⟩
  · exact ⟨_, rfl, fun k => c72n (by omega)⟩
  · exact ⟨_, rfl, fun k => c72n (by omega)⟩
  · exact ⟨_, rfl, fun k => c72x (ev_or_t (evNot (k := false) rfl))⟩
  · refine ⟨_, rfl, fun k => c72x (ev_or_f (evNot (k := true) rfl) (ev_or_f (ev_ne (i := 2) (j := 2) rfl rfl) (evNot (k := false) ?_)))⟩
    refine ev_bi (evs1 (ev_lcA (l := [D.bl true, .int 1]) (g := fun x => x) (h := fun x => .bl (match x with | .int _ => true | _ => false)) rfl (by show 2 ≤ 100000; decide) fun x hx => ⟨[sh (.tup [.bl true, .int 1]), none, none, sh x], rfl, cl (xs := [x]) rfl ?_⟩)) rfl
    rcases List.mem_cons.mp hx with rfl | hx
    · rfl
    · rw [List.mem_singleton] at hx; subst hx; rfl
  · exact ⟨_, rfl, fun k => c72x (ev_or_f (evNot (k := true) rfl) (ev_or_t (ev_ne (i := 3) (j := 2) rfl rfl)))⟩
  · exact ⟨_, rfl, fun k => c72x (ev_or_t (evNot (k := false) rfl))⟩
  · exact ⟨_, rfl, fun k => c72n (by omega)⟩
end
/-! what the loop tells: the first number from which on all are below -/
def lst (bel : Nat → Bool) (m : Nat) : Nat → Option Nat
  | 0 => none
  | i + 1 => if bel i = true then (match lst bel m i with
    | none => some (m + i)
    | some x => some x) else none
theorem lst_some {bel : Nat → Bool} {m : Nat} : ∀ {N x : Nat}, lst bel m N = some x → ∃ j, x = m + j ∧ j < N ∧ (∀ i, j ≤ i → i < N → bel i = true) ∧ (0 < j → bel (j - 1) = false)
  | 0, x, h => nomatch h
  | N + 1, x, h => by
    rw [lst] at h
    by_cases hb : bel N = true
    · rw [if_pos hb] at h
      cases hl : lst bel m N with
      | none =>
        rw [hl] at h
        refine ⟨N, (Option.some.inj h).symm, Nat.lt_succ_self N, fun i h1 h2 => by rw [show i = N by omega]; exact hb, fun hN => ?_⟩
        match N, hl with
        | n + 1, hl =>
          rw [lst] at hl
          by_cases hb2 : bel n = true
          · rw [if_pos hb2] at hl
            cases h3 : lst bel m n with
            | none => rw [h3] at hl; exact nomatch hl
            | some y => rw [h3] at hl; exact nomatch hl
          · exact Bool.eq_false_iff.mpr hb2
      | some y =>
        rw [hl] at h
        obtain ⟨j, h1, h2, h3, h4⟩ := lst_some hl
        have h : y = x := Option.some.inj h
        refine ⟨j, by rw [← h]; exact h1, by omega, fun i h5 h6 => ?_, h4⟩
        by_cases hi : i = N
        · rw [hi]; exact hb
        · exact h3 i h5 (by omega)
    · rw [if_neg hb] at h; exact nomatch h
theorem lst_none {bel : Nat → Bool} {m N : Nat} (h : lst bel m (N + 1) = none) : bel N = false := by
  rw [lst] at h
  by_cases hb : bel N = true
  · rw [if_pos hb] at h
    cases h3 : lst bel m N with
    | none => rw [h3] at h; exact nomatch h
    | some y => rw [h3] at h; exact nomatch h
  · exact Bool.eq_false_iff.mpr hb
/-! the numbers of the loop -/
def topN (kd : Int) (m i : Nat) : Int := chv ((m + i : Nat) : Int) m * pw kd m * pw (pw kd m - 1) i
def bot (kd : Int) (m i : Nat) : Int := pw (pw kd m) i
def mn (kd : Int) (m i : Nat) : Int := if bot kd m i < topN kd m i then bot kd m i else topN kd m i
def bel (kd : Int) (m p q : Nat) (i : Nat) : Bool := decide (mn kd m i * (q : Int) < (p : Int) * bot kd m i)
theorem two (x : Int) : ∃ a : Int, x * (x - 1) = 2 * a := by
  rcases (show x % 2 = 0 ∨ x % 2 = 1 by omega) with h | h
  · obtain ⟨c, hc⟩ : ∃ c, x = 2 * c := ⟨x / 2, by omega⟩
    exact ⟨c * (x - 1), by rw [← Int.mul_assoc, ← hc]⟩
  · obtain ⟨c, hc⟩ : ∃ c, x - 1 = 2 * c := ⟨(x - 1) / 2, by omega⟩
    exact ⟨x * c, by rw [hc, Int.mul_left_comm]⟩
theorem chv_step {m : Nat} (hm : m ≤ 2) (i : Nat) : chv ((m + i : Nat) : Int) m * (((m + i : Nat) : Int) + 1) = chv ((m + (i + 1) : Nat) : Int) m * ((i : Int) + 1) := by
  match m, hm with
  | 0, _ =>
    show 1 * _ = 1 * _
    congr 1
    omega
  | 1, _ =>
    have h : ∀ x : Int, chv x 1 = x := fun x => by
      show 1 * (x - (0 + ((0 : Nat) : Int))) / ((0 + ((0 : Nat) : Int)) + 1) = x
      rw [Int.one_mul]
      show (x - 0) / 1 = x
      rw [Int.ediv_one, Int.sub_zero]
    rw [h, h, Int.mul_comm]
    congr 1 <;> omega
  | 2, _ =>
    have h : ∀ x : Int, chv x 2 = x * (x - 1) / 2 := fun x => by
      have h1 : chv x 1 = x := by
        show 1 * (x - (0 + ((0 : Nat) : Int))) / ((0 + ((0 : Nat) : Int)) + 1) = x
        rw [Int.one_mul]
        show (x - 0) / 1 = x
        rw [Int.ediv_one, Int.sub_zero]
      show chv x 1 * (x - (0 + ((1 : Nat) : Int))) / ((0 + ((1 : Nat) : Int)) + 1) = _
      rw [h1]; rfl
    rw [h, h]
    generalize hx : ((2 + i : Nat) : Int) = x
    have hy : ((2 + (i + 1) : Nat) : Int) = x + 1 := by omega
    have hz : (i : Int) + 1 = x - 1 := by omega
    rw [hy, hz]
    obtain ⟨a, ha⟩ := two x
    obtain ⟨c, hc⟩ := two (x + 1)
    rw [ha, hc, Int.mul_ediv_cancel_left _ (by decide), Int.mul_ediv_cancel_left _ (by decide)]
    have h2 : 2 * (a * (x + 1)) = 2 * (c * (x - 1)) := by
      rw [← Int.mul_assoc, ← Int.mul_assoc, ← ha, ← hc, show x + 1 - 1 = x by omega, Int.mul_right_comm, Int.mul_comm x (x + 1)]
    omega
  | m + 3, h => exact absurd h (by omega)
theorem top_step {kd : Int} {m : Nat} (hm : m ≤ 2) (i : Nat) : topN kd m i * (((m + i : Nat) : Int) + 1) * (pw kd m - 1) / ((((m + i : Nat) : Int) + 1) - (m : Int)) = topN kd m (i + 1) := by
  have h1 : (((m + i : Nat) : Int) + 1) - (m : Int) = (i : Int) + 1 := by omega
  have h2 : topN kd m i * (((m + i : Nat) : Int) + 1) * (pw kd m - 1) = ((i : Int) + 1) * topN kd m (i + 1) := by
    show chv ((m + i : Nat) : Int) m * pw kd m * pw (pw kd m - 1) i * (((m + i : Nat) : Int) + 1) * (pw kd m - 1) = ((i : Int) + 1) * (chv ((m + (i + 1) : Nat) : Int) m * pw kd m * (pw (pw kd m - 1) i * (pw kd m - 1)))
    have := chv_step hm i
    generalize chv ((m + i : Nat) : Int) m = c at this ⊢
    generalize chv ((m + (i + 1) : Nat) : Int) m = c' at this ⊢
    generalize pw kd m = R
    generalize pw (R - 1) i = P
    generalize ((m + i : Nat) : Int) + 1 = n at this ⊢
    calc c * R * P * n * (R - 1) = (c * n) * (R * (P * (R - 1))) := by
          simp only [Int.mul_assoc, Int.mul_left_comm n]
      _ = (c' * ((i : Int) + 1)) * (R * (P * (R - 1))) := by rw [this]
      _ = ((i : Int) + 1) * (c' * R * (P * (R - 1))) := by
          rw [Int.mul_comm c', Int.mul_assoc, Int.mul_assoc]
  rw [h2, h1]
  exact Int.mul_ediv_cancel_left _ (by omega)
end K80
end

section
set_option Elab.async false
set_option linter.all false
set_option maxRecDepth 100000
namespace K80
open PySem PD PD.Core
theorem ret_s {T : Tab} {s : St} {r : Sts} {ρ ρ' : PD.Env} {d : D} {g : Fl → R D} {X : R D} (h : rn T s ρ = .ok (.rt d ρ')) (h2 : g (.rt d ρ') = X) : (rns T (.cons s r) ρ).bind g = X := by
  show ((rn T s ρ).bind _).bind g = X
  rw [h]
  exact h2
section
variable {k : Nat} {A dl e : D} {kd : Int} {m p q : Nat}
theorem pw_small (hk0 : 1 ≤ kd) (hk : kd ≤ 4) (hm : m ≤ 2) : 1 ≤ pw kd m ∧ pw kd m ≤ 16 := by
  obtain ⟨hr0, hr1⟩ := pw_le (b := kd) (w := 2) (by omega) (by omega) m
  have h1 := pw_pos (b := kd) (by omega) m
  have h2 : pw kd m ≤ 2 ^ 4 := Int.le_trans hr1 (pow_le2 (by omega))
  exact ⟨by omega, by omega⟩
theorem c73 (hk0 : 1 ≤ kd) (hk : kd ≤ 4) (hm : m ≤ 2) : C (k+2) 73 [.int kd, .int 1000, .int (m : Int)] = .ok (.bl true) := by
  obtain ⟨h1, h2⟩ := pw_small hk0 hk hm
  refine callF_run (f := f73) (ρ := [sh (.int kd), sh (.int 1000), sh (.int (m : Int)), none]) rfl rfl rfl ?_
  refine stepB (ρ' := [sh (.int kd), sh (.int 1000), sh (.int (m : Int)), sh (.int (pw kd m))]) (rn_asg (i := 3) (x := .int (pw kd m)) (cl (xs := [.int kd, .int (m : Int)]) rfl (c69 (k := k) kd (small_of (by omega) (by omega)) m (by omega))) rfl rfl rfl) ?_
  generalize pw kd m = R at h1 h2
  refine ret_b ((ev_lt (i := 1001 * (R - 1)) (j := (1001 - (m : Int)) * R) (ev_mul rfl rfl (mulOk_l rfl)) (ev_mul rfl rfl (mulOk_r (small_of (by omega) (by omega))))).trans ?_) fun _ => rfl
  have : (1001 - (m : Int)) * R = 1001 * R - (m : Int) * R := Int.sub_mul _ _ _
  have h3 : (m : Int) * R ≤ 2 * 16 := Int.mul_le_mul (by omega) h2 (by omega) (by omega)
  rw [this, decide_eq_true (show 1001 * (R - 1) < 1001 * R - (m : Int) * R by omega)]
abbrev bkE (A dl e : D) (kd : Int) (m p q : Nat) (l t b r n : Option OD) : PD.Env := [sh (bk A kd dl e), sh (.int (m : Int)), sh (.tup [.int (p : Int), .int (q : Int)]), l, t, b, r, n]
def oD : Option Nat → D
  | none => .non
  | some x => nD x
theorem c74g {sx : D} (hm : m ≤ 2) (h : C (k+2) 72 [sx] = .ok (.bl false)) : C (k+3) 74 [bk A kd dl e, .int (m : Int), sx] = .exc (.mk 3 []) := by
  refine callF_run (f := f74) (ρ := [sh (bk A kd dl e), sh (.int (m : Int)), sh sx, none, none, none, none, none]) rfl rfl rfl ?_
  refine stepB (ρ' := [sh (bk A kd dl e), sh (.int (m : Int)), sh sx, none, none, none, none, none]) (rn_exp (cl (xs := [bk A kd dl e]) rfl (c68 (k := k + 1) A (.int kd) dl e))) ?_
  refine stepB (ρ' := [sh (bk A kd dl e), sh (.int (m : Int)), sh sx, none, none, none, none, none]) (rn_if_n (evNot (k := true) (cl (xs := [.int m, .int 0, .int 4]) rfl (c46t (k := k) (by omega) (by omega))))) ?_
  exact bindX (cons_x (rn_if_t (evNot (k := false) (cl (xs := [sx]) rfl h)) rfl))
def bodyE : Sts := (.cons (.ife (.cmp .ge (.bin .mul (.bi .min2 (.cons (.var 4) (.cons (.var 5) .nil))) (.idx (.var 2) (.cI 1))) (.bin .mul (.idx (.var 2) (.cI 0)) (.var 5))) (.cons (.asg (.n 3) .cN) .nil) (.cons (.ife (.isN (.var 3)) (.cons (.asg (.n 3) (.var 7)) .nil) .nil) .nil)) (.cons (.asg (.n 4) (.bin .fdiv (.bin .mul (.bin .mul (.var 4) (.bin .add (.var 7) (.cI 1))) (.bin .sub (.var 6) (.cI 1))) (.bin .sub (.bin .add (.var 7) (.cI 1)) (.var 1)))) (.cons (.asg (.n 5) (.bin .mul (.var 5) (.var 6))) .nil)))
theorem min_ev {T : Tab} {ρ : PD.Env} {a b : Ex} {i j : Int} (ha : ev T a ρ = .ok (.int i)) (hb : ev T b ρ = .ok (.int j)) : ev T (.bi .min2 (.cons a (.cons b .nil))) ρ = .ok (.int (if j < i then j else i)) := ev_bi (evsC ha (evs1 hb)) rfl
theorem body_ok {T : Tab} (hk0 : 1 ≤ kd) (hk : kd ≤ 4) (hm : m ≤ 2) (hp : p < 1000000) (hq : q < 1000000) {i : Nat} (hi : i < 1001 - m) : rns T bodyE (bkE A dl e kd m p q (sh (oD (lst (bel kd m p q) m i))) (sh (.int (topN kd m i))) (sh (.int (bot kd m i))) (sh (.int (pw kd m))) (sh (.int ((m : Int) + i)))) = .ok (.nx (bkE A dl e kd m p q (sh (oD (lst (bel kd m p q) m (i + 1)))) (sh (.int (topN kd m (i + 1)))) (sh (.int (bot kd m (i + 1)))) (sh (.int (pw kd m))) (sh (.int ((m : Int) + i))))) := by
  obtain ⟨h1, h2⟩ := pw_small hk0 hk hm
  have hc : ev T (.cmp .ge (.bin .mul (.bi .min2 (.cons (.var 4) (.cons (.var 5) .nil))) (.idx (.var 2) (.cI 1))) (.bin .mul (.idx (.var 2) (.cI 0)) (.var 5))) (bkE A dl e kd m p q (sh (oD (lst (bel kd m p q) m i))) (sh (.int (topN kd m i))) (sh (.int (bot kd m i))) (sh (.int (pw kd m))) (sh (.int ((m : Int) + i)))) = .ok (.bl (!bel kd m p q i)) :=
    ev_ge (ev_mul (min_ev rfl rfl) (j := (q : Int)) rfl (mulOk_r (small_of (by omega) (by omega)))) (ev_mul (i := (p : Int)) rfl rfl (mulOk_l (small_of (by omega) (by omega))))
  have s1 : rn T (.ife (.cmp .ge (.bin .mul (.bi .min2 (.cons (.var 4) (.cons (.var 5) .nil))) (.idx (.var 2) (.cI 1))) (.bin .mul (.idx (.var 2) (.cI 0)) (.var 5))) (.cons (.asg (.n 3) .cN) .nil) (.cons (.ife (.isN (.var 3)) (.cons (.asg (.n 3) (.var 7)) .nil) .nil) .nil)) (bkE A dl e kd m p q (sh (oD (lst (bel kd m p q) m i))) (sh (.int (topN kd m i))) (sh (.int (bot kd m i))) (sh (.int (pw kd m))) (sh (.int ((m : Int) + i)))) = .ok (.nx (bkE A dl e kd m p q (sh (oD (lst (bel kd m p q) m (i + 1)))) (sh (.int (topN kd m i))) (sh (.int (bot kd m i))) (sh (.int (pw kd m))) (sh (.int ((m : Int) + i))))) := by
    rw [lst]
    generalize bel kd m p q i = bb at hc
    generalize lst (bel kd m p q) m i = ll at hc ⊢
    cases bb with
    | false => exact rn_if_t hc (stp (rn_asg (x := .non) rfl rfl rfl rfl) rfl)
    | true =>
      refine rn_if_f hc ?_
      cases ll with
      | none => exact stp (rn_if_t rfl (stp (rn_asg (x := .int ((m : Int) + i)) rfl rfl rfl rfl) rfl)) rfl
      | some x => exact stp (rn_if_n rfl) rfl
  refine stp s1 ?_
  have ht := top_step (kd := kd) hm i
  refine stp (ρ' := bkE A dl e kd m p q (sh (oD (lst (bel kd m p q) m (i + 1)))) (sh (.int (topN kd m (i + 1)))) (sh (.int (bot kd m i))) (sh (.int (pw kd m))) (sh (.int ((m : Int) + i)))) ?_ ?_
  · rw [← ht]
    have hl : ((((m + i : Nat) : Int) + 1) - (m : Int)).natAbs.log2 < 9000 := log_small (by omega) (by omega)
    exact rn_asg (ev_fdiv (ev_mul (ev_mul rfl (j := ((m + i : Nat) : Int) + 1) rfl (mulOk_r (small_of (by omega) (by omega)))) (j := pw kd m - 1) rfl (mulOk_r (small_of (by omega) (by omega)))) (j := ((m + i : Nat) : Int) + 1 - (m : Int)) rfl (by omega) hl) rfl rfl rfl
  exact stp (rn_asg (x := .int (bot kd m (i + 1))) (ev_mul rfl (j := pw kd m) rfl (mulOk_r (small_of (by omega) (by omega)))) rfl rfl rfl) rfl
theorem c74 (hk0 : 1 ≤ kd) (hk : kd ≤ 4) (hm : m ≤ 2) (hp : p < 1000000) (hq : q < 1000000) (hs : C (k+3) 72 [.tup [.int (p : Int), .int (q : Int)]] = .ok (.bl true)) :
    C (k+4) 74 [bk A kd dl e, .int (m : Int), .tup [.int (p : Int), .int (q : Int)]] = (match lst (bel kd m p q) m (1001 - m) with
      | none => .exc (.mk 5 [.int 1000])
      | some x => .ok (nD x)) := by
  obtain ⟨h1, h2⟩ := pw_small hk0 hk hm
  refine callF_run (f := f74) (ρ := bkE A dl e kd m p q none none none none none) rfl rfl rfl ?_
  refine stepB (ρ' := bkE A dl e kd m p q none none none none none) (rn_exp (cl (xs := [bk A kd dl e]) rfl (c68 (k := k + 2) A (.int kd) dl e))) ?_
  refine stepB (ρ' := bkE A dl e kd m p q none none none none none) (rn_if_n (evNot (k := true) (cl (xs := [.int m, .int 0, .int 4]) rfl (c46t (k := k + 1) (by omega) (by omega))))) ?_
  refine stepB (ρ' := bkE A dl e kd m p q none none none none none) (rn_if_n (evNot (k := true) (cl (xs := [.tup [.int (p : Int), .int (q : Int)]]) rfl hs))) ?_
  refine stepB (ρ' := bkE A dl e kd m p q (sh .non) none none none none) rfl ?_
  have h70 := c70 (k := k + 1) kd hk0 hk m m 0 (by omega) (Nat.le_refl m) (by omega) (by omega)
  refine stepB (ρ' := bkE A dl e kd m p q (sh .non) (sh (.int (topN kd m 0))) (sh (.int (bot kd m 0))) none none) (rn_asgt (cl (xs := [.int kd, .int (m : Int), .int (m : Int)]) rfl h70) rfl rfl) ?_
  refine stepB (ρ' := bkE A dl e kd m p q (sh .non) (sh (.int (topN kd m 0))) (sh (.int (bot kd m 0))) (sh (.int (pw kd m))) none) (rn_asg (i := 6) (x := .int (pw kd m)) (cl (xs := [.int kd, .int (m : Int)]) rfl (c69 (k := k + 2) kd (small_of (by omega) (by omega)) m (by omega))) rfl rfl rfl) ?_
  have hi : evIt (Tb (k+3)) (.r2 (.var 1) (.bin .add (.gI "MOST_PERSONS" 1000) (.cI 1))) (bkE A dl e kd m p q (sh .non) (sh (.int (topN kd m 0))) (sh (.int (bot kd m 0))) (sh (.int (pw kd m))) none) = .ok (intsD (m : Int) (1001 - m)) := by
    rw [evIt_r2 (i := (m : Int)) (j := 1001) rfl rfl (by rw [smallI_of (by omega)]; rfl), show ((1001 : Int) - (m : Int)).toNat = 1001 - m by omega]
  have loop := loopF_ints (f := fun x ρ => (bindT (.n 7) x ρ).bind fun ρ => rns (Tb (k+3)) bodyE ρ) (1001 - m) (m : Int) (fun i => bkE A dl e kd m p q (sh (oD (lst (bel kd m p q) m i))) (sh (.int (topN kd m i))) (sh (.int (bot kd m i))) (sh (.int (pw kd m))) (lv none m i)) fun i hi => bindO (x := bkE A dl e kd m p q (sh (oD (lst (bel kd m p q) m i))) (sh (.int (topN kd m i))) (sh (.int (bot kd m i))) (sh (.int (pw kd m))) (sh (.int ((m : Int) + i)))) rfl (body_ok hk0 hk hm hp hq hi)
  refine stepB (rn_fr hi rfl loop) ?_
  have h73 := c73 (k := k + 1) hk0 hk hm
  generalize lst (bel kd m p q) m (1001 - m) = ll
  generalize topN kd m (1001 - m) = tt
  generalize bot kd m (1001 - m) = bb
  generalize lv none (m : Int) (1001 - m) = nn
  cases ll with
  | none => exact bindX (cons_x (rn_if_t (ev_or_t rfl) rfl))
  | some x =>
    refine stepB (rn_if_n (ev_or_f rfl (evNot (k := true) (cl (xs := [.int kd, .int 1000, .int (m : Int)]) rfl h73)))) ?_
    exact ret_b rfl fun _ => rfl
/-! what the law is told -/
theorem c75e {sx : D} (h : C k 74 [bk A kd dl e, .int (m : Int), sx] = .exc (.mk 3 [])) : C (k+1) 75 [bk A kd dl e, .int (m : Int), sx] = .ok (.int (-2)) := by
  refine callF_run (f := f75) (ρ := [sh (bk A kd dl e), sh (.int (m : Int)), sh sx, none]) rfl rfl rfl ?_
  have h1 : rns (Tb k) (.cons (.ret (.call 74 (.cons (.var 0) (.cons (.var 1) (.cons (.var 2) .nil))))) .nil) [sh (bk A kd dl e), sh (.int (m : Int)), sh sx, none] = .exc (.mk 3 []) := cons_x (bindX (cl (xs := [bk A kd dl e, .int (m : Int), sx]) rfl h))
  refine ret_s (d := .int (-2)) (ρ' := [none, none, none, none]) ?_ rfl
  rw [rn, h1]; rfl
theorem c75n {sx : D} (h : C k 74 [bk A kd dl e, .int (m : Int), sx] = .exc (.mk 5 [.int 1000])) : C (k+1) 75 [bk A kd dl e, .int (m : Int), sx] = .ok (.int (-1)) := by
  refine callF_run (f := f75) (ρ := [sh (bk A kd dl e), sh (.int (m : Int)), sh sx, none]) rfl rfl rfl ?_
  have h1 : rns (Tb k) (.cons (.ret (.call 74 (.cons (.var 0) (.cons (.var 1) (.cons (.var 2) .nil))))) .nil) [sh (bk A kd dl e), sh (.int (m : Int)), sh sx, none] = .exc (.mk 5 [.int 1000]) := cons_x (bindX (cl (xs := [bk A kd dl e, .int (m : Int), sx]) rfl h))
  refine ret_s (d := .int (-1)) (ρ' := [none, none, none, none]) ?_ rfl
  rw [rn, h1]; rfl
theorem c75s {sx : D} {x : Nat} (h : C k 74 [bk A kd dl e, .int (m : Int), sx] = .ok (nD x)) : C (k+1) 75 [bk A kd dl e, .int (m : Int), sx] = .ok (nD x) := by
  refine callF_run (f := f75) (ρ := [sh (bk A kd dl e), sh (.int (m : Int)), sh sx, none]) rfl rfl rfl ?_
  obtain ⟨ρ', h1⟩ := ret_l (T := Tb k) (ρ := [sh (bk A kd dl e), sh (.int (m : Int)), sh sx, none]) (e := .call 74 (.cons (.var 0) (.cons (.var 1) (.cons (.var 2) .nil)))) (s := .nil) (cl (xs := [bk A kd dl e, .int (m : Int), sx]) rfl h)
  refine ret_s (d := nD x) (ρ' := ρ') ?_ rfl
  rw [rn, h1]
/-! the bound of so many persons is below -/
theorem c76 {u v : Nat} (hp : p < 1000000) (hq : q < 1000000) : C (k+1) 76 [.tup [.int (u : Int), .int (v : Int)], .tup [.int (p : Int), .int (q : Int)]] = .ok (.bl (decide ((u : Int) * (q : Int) < (p : Int) * (v : Int)))) := by
  refine callF_run (f := f76) (ρ := [sh (.tup [.int (u : Int), .int (v : Int)]), sh (.tup [.int (p : Int), .int (q : Int)])]) rfl rfl rfl ?_
  exact ret_b (ev_lt (ev_mul (i := (u : Int)) (j := (q : Int)) rfl rfl (mulOk_r (small_of (by omega) (by omega)))) (ev_mul (i := (p : Int)) (j := (v : Int)) rfl rfl (mulOk_l (small_of (by omega) (by omega))))) fun _ => rfl
theorem lb (hk0 : 1 ≤ kd) (hk : kd ≤ 4) (hm : m ≤ 2) (hp : p < 1000000) (hq : q < 1000000) {i : Nat} (hi : m + i ≤ 1000) : ∃ T : D, C (k+3) 78 [bk A kd dl e, .int ((m + i : Nat) : Int), .int (m : Int)] = .ok T ∧ C (k+3) 76 [T, .tup [.int (p : Int), .int (q : Int)]] = .ok (.bl (bel kd m p q i)) := by
  obtain ⟨hr1, hr2⟩ := pw_small hk0 hk hm
  obtain ⟨hc0, hc1⟩ := chv_le (n := m + i) hi m (by omega)
  obtain ⟨hp0, hp1⟩ := pw_le (b := pw kd m - 1) (w := 8) (by omega) (by omega) i
  obtain ⟨hu0, hu1⟩ := pw_le (b := pw kd m) (w := 8) (by omega) (by omega) i
  have hup := pw_pos (b := pw kd m) (by omega) i
  have ht0 : 0 ≤ chv ((m + i : Nat) : Int) m * pw kd m * pw (pw kd m - 1) i := Int.mul_nonneg (Int.mul_nonneg hc0 (by omega)) hp0
  obtain ⟨t, ht⟩ := Int.eq_ofNat_of_zero_le ht0
  obtain ⟨bt, hbt⟩ := Int.eq_ofNat_of_zero_le hu0
  have hbt0 : 0 < bt := by omega
  have hbt2 : bt < 2 ^ 8500 := by
    rw [hbt] at hu1
    have h9 : (bt : Int) ≤ 2 ^ 8000 := Int.le_trans hu1 (pow_le2 (by omega))
    have h8 : bt ≤ 2 ^ 8000 := by
      have : ((2 ^ 8000 : Nat) : Int) = (2 : Int) ^ 8000 := Int.natCast_pow 2 8000
      rw [← this] at h9
      exact Int.ofNat_le.mp h9
    exact Nat.lt_of_le_of_lt h8 (Nat.pow_lt_pow_right (by decide) (by decide))
  have h78 := c78 (k := k) A dl e kd hk0 hk (m + i) m i hi (by omega) (by omega) (by omega) t bt ht hbt hbt0 hbt2 (if bt < t then bt else t) rfl
  refine ⟨_, h78, (c76 (k := k + 2) hp hq).trans (congrArg (fun z => PD.R.ok (D.bl z)) ?_)⟩
  unfold bel mn
  have e1 : topN kd m i = (t : Int) := ht
  have e2 : bot kd m i = (bt : Int) := hbt
  rw [e1, e2]
  have e3 : (if (bt : Int) < (t : Int) then (bt : Int) else (t : Int)) = ((if bt < t then bt else t : Nat) : Int) := by
    by_cases z : bt < t
    · rw [if_pos z, if_pos (by omega)]
    · rw [if_neg z, if_neg (by omega)]
  rw [e3]
  generalize (if bt < t then bt else t) = x
  have hg0 : 0 < Nat.gcd bt x := Nat.gcd_pos_of_pos_left x hbt0
  obtain ⟨u, hu⟩ := Nat.gcd_dvd_right bt x
  obtain ⟨v, hv⟩ := Nat.gcd_dvd_left bt x
  have hdu : x / Nat.gcd bt x = u := Nat.div_eq_of_eq_mul_right hg0 hu
  have hdv : bt / Nat.gcd bt x = v := Nat.div_eq_of_eq_mul_right hg0 hv
  rw [hdu, hdv]
  generalize Nat.gcd bt x = g at hg0 hu hv
  refine decide_eq_decide.mpr ?_
  rw [hu, hv, ← Int.natCast_mul, ← Int.natCast_mul, ← Int.natCast_mul, ← Int.natCast_mul, Int.ofNat_lt, Int.ofNat_lt, Nat.mul_assoc, Nat.mul_left_comm p g v]
  exact ⟨fun z => Nat.mul_lt_mul_of_pos_left z hg0, fun z => Nat.lt_of_mul_lt_mul_left z⟩
end
end K80
end

section
set_option Elab.async false
set_option linter.all false
set_option maxRecDepth 100000
namespace K80
open PySem PD PD.Core
theorem c67 {k : Nat} (a b : Nat) (ha : a < 1000000) (hb : b < 1000000) : C (k+1) 67 [.int (a : Int), .int (b : Int)] = .ok (.int (Nat.gcd b a : Nat)) := by
  have hfu : ∀ x : Nat, x < 1000000 → x < fu := fun x h => by
    rw [fu_eq]
    exact Nat.lt_trans h (show 1000000 < 2 ^ 9000 from Nat.lt_of_lt_of_le (show 1000000 < 2 ^ 20 by decide) (Nat.pow_le_pow_right (by decide) (by decide)))
  refine callF_run (f := f67) (ρ := [sh (.int a), sh (.int b)]) rfl rfl rfl ?_
  obtain ⟨z, hz⟩ := loopW_gcd (cnd := fun ρ => (ev (Tb k) (.cmp .gt (.var 1) (.cI 0)) ρ).bind truR) (f := fun ρ => rns (Tb k) (.cons (.par 0 1 (.var 1) (.bin .sub (.var 0) (.bin .mul (.bin .fdiv (.var 0) (.var 1)) (.var 1)))) .nil) ρ) (P := fun a b => [sh (.int (a : Int)), sh (.int (b : Int))])
    (fun a b => bindO ((ev_cmp rfl rfl).trans (gt_i _ _)) rfl) 1000000
    (fun p q hp hq hq0 => by
      have e1 : (p : Int) - (p : Int) / (q : Int) * (q : Int) = ((p % q : Nat) : Int) := by
        rw [Int.natCast_emod]
        have := Int.mul_ediv_add_emod (p : Int) (q : Int)
        rw [Int.mul_comm] at this
        omega
      have e2 : ev (Tb k) (.bin .sub (.var 0) (.bin .mul (.bin .fdiv (.var 0) (.var 1)) (.var 1))) [sh (.int (p : Int)), sh (.int (q : Int))] = .ok (.int ((p % q : Nat) : Int)) := by
        rw [← e1]
        exact ev_sub rfl (ev_mul (ev_fdiv rfl rfl (Int.natCast_pos.mpr hq0) (log_small (by omega) (by omega))) rfl (mulOk_r (small_of (by omega) (by omega))))
      exact stp (ρ' := [sh (.int (q : Int)), sh (.int ((p % q : Nat) : Int))]) (rn_par rfl e2 rfl) rfl) fu a b (hfu b hb) (by omega) (by omega)
  refine stepB (ρ' := [sh (.int ((Nat.gcd b a : Nat) : Int)), sh (.int (z : Int))]) hz ?_
  exact ret_b rfl fun _ => rfl
theorem c15i {k : Nat} (x : Int) : C (k+1) 15 [.int x] = .ok (.bl true) := rfl
abbrev EL (ns : List Int) (nm b : List Nat) (o3 o4 o5 o6 o7 o8 o9 o10 o11 o12 : Option OD) : PD.Env := [sh (.scr (ns.map .int)), sh (lD nm), sh (rD b), o3, o4, o5, o6, o7, o8, o9, o10, o11, o12]
theorem min_n {T : Tab} {ρ : PD.Env} {a b : Ex} {i j : Nat} (ha : ev T a ρ = .ok (nD i)) (hb : ev T b ρ = .ok (nD j)) : ev T (.bi .min2 (.cons a (.cons b .nil))) ρ = .ok (nD (if j < i then j else i)) := by
  refine (min_ev ha hb).trans ?_
  by_cases z : j < i
  · rw [if_pos z, if_pos (by omega)]
  · rw [if_neg z, if_neg (by omega)]
theorem math (ns : List Int) (hns : ns.length ≤ 63) : callF B fi sub fu 20 lawI [.scr (ns.map .int)] = .ok (.bl true) := by
  obtain ⟨nm, hl, h1⟩ := c1a (B := B) (fi := fi) (sub := sub) (fu := fu) rfl rfl (k := 17) ns 0
  have hnm : ∀ i, i < 30 → ∃ v, nm[i]? = some v := fun i hi => ⟨nm[i]'(by omega), List.getElem?_eq_getElem _⟩
  obtain ⟨v0, hv0⟩ := hnm 0 (by decide)
  obtain ⟨v1, hv1⟩ := hnm 1 (by decide)
  obtain ⟨v2, hv2⟩ := hnm 2 (by decide)
  obtain ⟨v3, hv3⟩ := hnm 3 (by decide)
  obtain ⟨v4, hv4⟩ := hnm 4 (by decide)
  obtain ⟨v5, hv5⟩ := hnm 5 (by decide)
  have hbl : v0 % 17 < backs.length := Nat.mod_lt _ (by decide)
  obtain ⟨b, hbi, hbm⟩ : ∃ b, backs[v0 % 17]? = some b ∧ b ∈ backs := ⟨backs[v0 % 17], List.getElem?_eq_getElem hbl, List.getElem_mem hbl⟩
  have hb := back_ok hbm
  have h10 := c10 (B := B) (fi := fi) (sub := sub) (fu := fu) rfl (k := 18)
  have h9 := c9b (B := B) (fi := fi) (sub := sub) (k := 14) (m := fu - 4) rfl rfl rfl rfl rfl rfl rfl rfl hf hb (List.nil_sublist (formsOf b))
  rw [← fu_ok] at h9
  have hk1 : (1 : Int) ≤ (b.length : Int) := by have := hb.pos; omega
  have hk4 : (b.length : Int) ≤ 4 := by have := hb.le; omega
  obtain ⟨m, hm⟩ : ∃ m, m = v1 % 3 := ⟨_, rfl⟩
  have hm2 : m ≤ 2 := by have := Nat.mod_lt v1 (show 0 < 3 by decide); omega
  obtain ⟨sz, hsz⟩ : ∃ sz, sz = if v2 % 4 = 1 then 1000000 else 60 := ⟨_, rfl⟩
  have hsz2 : 60 ≤ sz ∧ sz ≤ 1000000 := by rw [hsz]; split <;> exact ⟨by decide, by decide⟩
  obtain ⟨bt, hbt⟩ : ∃ bt, bt = 1 + v3 % (sz - 1) := ⟨_, rfl⟩
  have hbt2 : 1 ≤ bt ∧ bt < 1000000 := by have := Nat.mod_lt v3 (show 0 < sz - 1 by omega); omega
  obtain ⟨tp, htp⟩ : ∃ tp, tp = 1 + v4 % bt := ⟨_, rfl⟩
  have htp2 : 1 ≤ tp ∧ tp ≤ bt := by have := Nat.mod_lt v4 (show 0 < bt by omega); omega
  have h67 := c67 (k := 18) tp bt (by omega) (by omega)
  have hg0 : 0 < Nat.gcd bt tp := Nat.gcd_pos_of_pos_left tp (by omega)
  have hcop : Nat.gcd (bt / Nat.gcd bt tp) (tp / Nat.gcd bt tp) = 1 := Nat.coprime_div_gcd_div_gcd hg0
  have hgt : Nat.gcd bt tp ≤ tp := Nat.gcd_le_right bt (by omega)
  generalize hg : Nat.gcd bt tp = g at h67 hg0 hcop hgt
  obtain ⟨p, hp⟩ : ∃ p, p = tp / g := ⟨_, rfl⟩
  obtain ⟨q, hq⟩ : ∃ q, q = bt / g := ⟨_, rfl⟩
  rw [← hp, ← hq] at hcop
  have hp1 : 0 < p := by rw [hp]; exact Nat.div_pos hgt hg0
  have hpq : p ≤ q := by rw [hp, hq]; exact Nat.div_le_div_right htp2.2
  have hq6 : q < 1000000 := by rw [hq]; exact Nat.lt_of_le_of_lt (Nat.div_le_self _ _) hbt2.2
  have hp6 : p < 1000000 := by omega
  have h72 : ∀ k, C (k+2) 72 [.tup [.int (p : Int), .int (q : Int)]] = .ok (.bl true) := fun k => (c72g hp1 hpq hq6).trans (by rw [decide_eq_true hcop])
  have h74 := c74 (k := 14) (A := rD b) (dl := .dct true (letsL b [])) (e := .non) hk1 hk4 hm2 hp6 hq6 (h72 15)
  have LB := fun {i : Nat} (hi : m + i ≤ 1000) => lb (k := 16) (A := rD b) (dl := .dct true (letsL b [])) (e := .non) hk1 hk4 hm2 hp6 hq6 hi
  have idx : ∀ {i v : Nat} (o3 o4 o5 o6 o7 o8 o9 o10 o11 o12 : Option OD), nm[i]? = some v → ev (Tb 19) (.idx (.var 1) (.cI (i : Int))) (EL ns nm b o3 o4 o5 o6 o7 o8 o9 o10 o11 o12) = .ok (nD v) := fun o3 o4 o5 o6 o7 o8 o9 o10 o11 o12 h => (ev_idx (x := lD nm) rfl rfl).trans (idx_ln h)
  refine callF_run (k := 19) (f := f79) (ρ := [sh (.scr (ns.map .int)), none, none, none, none, none, none, none, none, none, none, none, none]) rfl rfl rfl ?_
  refine stepB (ρ' := [sh (.scr (ns.map .int)), sh (lD nm), none, none, none, none, none, none, none, none, none, none, none]) (rn_asg (cl (xs := [.scr (ns.map .int), .int 0, .int 30]) rfl h1) rfl rfl rfl) ?_
  refine stepB (ρ' := EL ns nm b none none none none none none none none none none) (rn_asg ((ev_idx (cl rfl h10) (evn_mod (y := 17) ((ev_idx (x := lD nm) (y := nD 0) rfl rfl).trans (idx_ln hv0)) rfl (by decide))).trans (idx_l (by rw [List.getElem?_map, hbi]; rfl))) rfl rfl rfl) ?_
  refine stepB (ρ' := EL ns nm b (sh (bookD b [])) none none none none none none none none none) (rn_asg (cm (xs := [rD b, .tup []]) rfl h9) rfl rfl rfl) ?_
  refine stepB (ρ' := EL ns nm b (sh (bookD b [])) (sh (nD m)) none none none none none none none none) ?_ ?_
  · rw [hm]
    exact rn_asg (evn_mod (y := 3) (idx _ _ _ _ _ _ _ _ _ _ hv1) rfl (by decide)) rfl rfl rfl
  refine stepB (ρ' := EL ns nm b (sh (bookD b [])) (sh (nD m)) (sh (.int 60)) none none none none none none none) rfl ?_
  have s5 : rn (Tb 19) (.ife (.cmp .eq (.bin .mod (.idx (.var 1) (.cI 2)) (.cI 4)) (.cI 1)) (.cons (.asg (.n 5) (.bin .pow (.cI 10) (.cI 6))) .nil) .nil) (EL ns nm b (sh (bookD b [])) (sh (nD m)) (sh (.int 60)) none none none none none none none) = .ok (.nx (EL ns nm b (sh (bookD b [])) (sh (nD m)) (sh (nD sz)) none none none none none none none)) := by
    have hc := evn_eq (T := Tb 19) (e' := .cI 1) (y := 1) (evn_mod (e' := .cI 4) (y := 4) (idx (sh (bookD b [])) (sh (nD m)) (sh (.int 60)) none none none none none none none hv2) rfl (by decide)) rfl
    by_cases z : v2 % 4 = 1
    · rw [decide_eq_true z] at hc
      rw [hsz, if_pos z]
      exact rn_if_t hc (stp (rn_asg (x := .int 1000000) rfl rfl rfl rfl) rfl)
    · rw [decide_eq_false z] at hc
      rw [hsz, if_neg z]
      exact rn_if_n hc
  refine stepB s5 ?_
  refine stepB (ρ' := EL ns nm b (sh (bookD b [])) (sh (nD m)) (sh (nD sz)) (sh (nD bt)) none none none none none none) ?_ ?_
  · rw [hbt]
    exact rn_asg (evn_add (x := 1) rfl (evn_mod (idx _ _ _ _ _ _ _ _ _ _ hv3) (evn_sub (x := sz) (y := 1) rfl rfl (by omega)) (by omega))) rfl rfl rfl
  refine stepB (ρ' := EL ns nm b (sh (bookD b [])) (sh (nD m)) (sh (nD sz)) (sh (nD bt)) (sh (nD tp)) none none none none none) ?_ ?_
  · rw [htp]
    exact rn_asg (evn_add (x := 1) rfl (evn_mod (y := bt) (idx _ _ _ _ _ _ _ _ _ _ hv4) rfl (by omega))) rfl rfl rfl
  refine stepB (ρ' := EL ns nm b (sh (bookD b [])) (sh (nD m)) (sh (nD sz)) (sh (nD bt)) (sh (nD tp)) (sh (nD g)) none none none none) (rn_asg (cl (xs := [nD tp, nD bt]) rfl h67) rfl rfl rfl) ?_
  have hg6 : g < 2 ^ 60 := by omega
  refine stepB (ρ' := EL ns nm b (sh (bookD b [])) (sh (nD m)) (sh (nD sz)) (sh (nD bt)) (sh (nD tp)) (sh (nD g)) (sh (.tup [nD p, nD q])) none none none) ?_ ?_
  · rw [hp, hq]
    exact rn_asg (ev_tp (evn_fdiv (x := tp) (y := g) rfl rfl hg0 hg6) (evn_fdiv (x := bt) (y := g) rfl rfl hg0 hg6)) rfl rfl rfl
  obtain ⟨x, hx1, hx2⟩ := bads_bad (Nat.mod_lt v5 (show 0 < 10 by decide))
  have fin : ∀ (o10 o11 : Option OD), (rns (Tb 19) (.cons (.asg (.n 12) (.idx (.lst (.cons (.tup (.cons (.cI 0) (.cons (.cI 1) .nil))) (.cons (.tup (.cons (.cI 2) (.cons (.cI 4) .nil))) (.cons (.tup (.cons (.cI 3) (.cons (.cI 2) .nil))) (.cons (.tup (.cons (.cI 1) (.cons (.cI 0) .nil))) (.cons (.tup (.cons (.cI 1) (.cons (.bin .pow (.cI 10) (.cI 6)) .nil))) (.cons (.lst (.cons (.cI 1) (.cons (.cI 2) .nil))) (.cons (.tup (.cons (.cB true) (.cons (.cI 1) .nil))) (.cons (.tup (.cons (.cI 1) (.cons (.cI 2) (.cons (.cI 3) .nil)))) (.cons .cN (.cons (.tup (.cons (.neg (.cI 1)) (.cons (.cI 2) .nil))) .nil))))))))))) (.bin .mod (.idx (.var 1) (.cI 5)) (.cI 10)))) (.cons (.ret (.cmp .eq (.call 75 (.cons (.var 3) (.cons (.var 4) (.cons (.var 12) .nil)))) (.neg (.cI 2)))) .nil)) (EL ns nm b (sh (bookD b [])) (sh (nD m)) (sh (nD sz)) (sh (nD bt)) (sh (nD tp)) (sh (nD g)) (sh (.tup [nD p, nD q])) o10 o11 none)).bind (FnI.fin f79) = .ok (.bl true) := fun o10 o11 => by
    have eb : ev (Tb 19) (.lst (.cons (.tup (.cons (.cI 0) (.cons (.cI 1) .nil))) (.cons (.tup (.cons (.cI 2) (.cons (.cI 4) .nil))) (.cons (.tup (.cons (.cI 3) (.cons (.cI 2) .nil))) (.cons (.tup (.cons (.cI 1) (.cons (.cI 0) .nil))) (.cons (.tup (.cons (.cI 1) (.cons (.bin .pow (.cI 10) (.cI 6)) .nil))) (.cons (.lst (.cons (.cI 1) (.cons (.cI 2) .nil))) (.cons (.tup (.cons (.cB true) (.cons (.cI 1) .nil))) (.cons (.tup (.cons (.cI 1) (.cons (.cI 2) (.cons (.cI 3) .nil)))) (.cons .cN (.cons (.tup (.cons (.neg (.cI 1)) (.cons (.cI 2) .nil))) .nil))))))))))) (EL ns nm b (sh (bookD b [])) (sh (nD m)) (sh (nD sz)) (sh (nD bt)) (sh (nD tp)) (sh (nD g)) (sh (.tup [nD p, nD q])) o10 o11 none) = .ok (.lst bads) := rfl
    refine stepB (ρ' := EL ns nm b (sh (bookD b [])) (sh (nD m)) (sh (nD sz)) (sh (nD bt)) (sh (nD tp)) (sh (nD g)) (sh (.tup [nD p, nD q])) o10 o11 (sh x)) (rn_asg ((ev_idx eb (evn_mod (y := 10) (idx _ _ _ _ _ _ _ _ _ _ hv5) rfl (by decide))).trans (idx_l hx1)) rfl rfl rfl) ?_
    exact ret_b (ev_eq (i := -2) (j := -2) (cl (xs := [bookD b [], nD m, x]) rfl (c75e (k := 18) (A := rD b) (kd := (b.length : Int)) (dl := .dct true (letsL b [])) (e := .non) (m := m) (c74g (k := 15) hm2 (hx2 15)))) rfl) fun _ => rfl
  cases hL : lst (bel (b.length : Int) m p q) m (1001 - m) with
  | none =>
    rw [hL] at h74
    have hN : bel (b.length : Int) m p q (1000 - m) = false := lst_none (N := 1000 - m) (m := m) (by rw [show 1000 - m + 1 = 1001 - m by omega]; exact hL)
    refine stepB (ρ' := EL ns nm b (sh (bookD b [])) (sh (nD m)) (sh (nD sz)) (sh (nD bt)) (sh (nD tp)) (sh (nD g)) (sh (.tup [nD p, nD q])) (sh (.int (-1))) none none) (rn_asg (cl (xs := [bookD b [], nD m, .tup [nD p, nD q]]) rfl (c75n (k := 18) h74)) rfl rfl rfl) ?_
    refine stepB (rn_if_n (evNot (k := true) (cl (xs := [.int (-1)]) rfl (c15i (k := 18) _)))) ?_
    obtain ⟨T, g1, g2⟩ := LB (i := 1000 - m) (by omega)
    rw [hN] at g2
    rw [show m + (1000 - m) = 1000 by omega] at g1
    refine stepB (rn_if_t (ev_eq (i := -1) (j := -1) rfl rfl) (stp (rn_if_n (cl (evsC (x := T) (cl (xs := [bookD b [], nD 1000, nD m]) rfl g1) (evs1 (x := .tup [nD p, nD q]) rfl)) g2)) rfl)) ?_
    exact fin _ _
  | some t =>
    rw [hL] at h74
    obtain ⟨j, hj1, hj2, hj3, hj4⟩ := lst_some hL
    refine stepB (ρ' := EL ns nm b (sh (bookD b [])) (sh (nD m)) (sh (nD sz)) (sh (nD bt)) (sh (nD tp)) (sh (nD g)) (sh (.tup [nD p, nD q])) (sh (nD t)) none none) (rn_asg (cl (xs := [bookD b [], nD m, .tup [nD p, nD q]]) rfl (c75s (k := 18) h74)) rfl rfl rfl) ?_
    refine stepB (rn_if_n (evNot (k := true) (cl (xs := [nD t]) rfl (c15i (k := 18) _)))) ?_
    have below : ∀ (o11 : Option OD) (e : Ex) (i : Nat), m + i ≤ 1000 → ev (Tb 19) e (EL ns nm b (sh (bookD b [])) (sh (nD m)) (sh (nD sz)) (sh (nD bt)) (sh (nD tp)) (sh (nD g)) (sh (.tup [nD p, nD q])) (sh (nD t)) o11 none) = .ok (nD (m + i)) → ev (Tb 19) (.call 76 (.cons (.call 78 (.cons (.var 3) (.cons e (.cons (.var 4) .nil)))) (.cons (.var 9) .nil))) (EL ns nm b (sh (bookD b [])) (sh (nD m)) (sh (nD sz)) (sh (nD bt)) (sh (nD tp)) (sh (nD g)) (sh (.tup [nD p, nD q])) (sh (nD t)) o11 none) = .ok (.bl (bel (b.length : Int) m p q i)) := fun o11 e i hi he => by
      obtain ⟨T, g1, g2⟩ := LB hi
      exact cl (evsC (x := T) (cl (xs := [bookD b [], nD (m + i), nD m]) (evsC rfl (evsC he (evs1 rfl))) g1) (evs1 (x := .tup [nD p, nD q]) rfl)) g2
    have s12 : ∃ o11, rn (Tb 19) (.ife (.cmp .eq (.var 10) (.neg (.cI 1))) (.cons (.ife (.call 76 (.cons (.call 78 (.cons (.var 3) (.cons (.cI 1000) (.cons (.var 4) .nil)))) (.cons (.var 9) .nil))) (.cons (.ret (.cB false)) .nil) .nil) .nil) (.cons (.ife (.or (.cmp .lt (.var 10) (.var 4)) (.cmp .gt (.var 10) (.cI 1000))) (.cons (.ret (.cB false)) .nil) .nil) (.cons (.fr (.n 11) (.r2 (.var 10) (.bi .min2 (.cons (.cI 1000) (.cons (.bin .add (.var 10) (.cI 12)) .nil)))) (.cons (.ife (.not (.call 76 (.cons (.call 78 (.cons (.var 3) (.cons (.var 11) (.cons (.var 4) .nil)))) (.cons (.var 9) .nil)))) (.cons (.ret (.cB false)) .nil) .nil) .nil)) (.cons (.ife (.and (.cmp .gt (.var 10) (.var 4)) (.call 76 (.cons (.call 78 (.cons (.var 3) (.cons (.bin .sub (.var 10) (.cI 1)) (.cons (.var 4) .nil)))) (.cons (.var 9) .nil)))) (.cons (.ret (.cB false)) .nil) .nil) .nil)))) (EL ns nm b (sh (bookD b [])) (sh (nD m)) (sh (nD sz)) (sh (nD bt)) (sh (nD tp)) (sh (nD g)) (sh (.tup [nD p, nD q])) (sh (nD t)) none none) = .ok (.nx (EL ns nm b (sh (bookD b [])) (sh (nD m)) (sh (nD sz)) (sh (nD bt)) (sh (nD tp)) (sh (nD g)) (sh (.tup [nD p, nD q])) (sh (nD t)) o11 none)) := by
      obtain ⟨n, hn⟩ : ∃ n, n = (if t + 12 < 1000 then t + 12 else 1000) := ⟨_, rfl⟩
      refine ⟨lv none (t : Int) (n - t), ?_⟩
      refine rn_if_f ((ev_eq (i := (t : Int)) (j := -1) rfl rfl).trans (by rw [decide_eq_false (by omega)])) ?_
      refine stp (rn_if_n (ev_or_f ((ev_lt (i := (t : Int)) (j := (m : Int)) rfl rfl).trans (by rw [decide_eq_false (by omega)])) ((ev_gt (i := (t : Int)) (j := 1000) rfl rfl).trans (by rw [decide_eq_false (by omega)])))) ?_
      have hi : evIt (Tb 19) (.r2 (.var 10) (.bi .min2 (.cons (.cI 1000) (.cons (.bin .add (.var 10) (.cI 12)) .nil)))) (EL ns nm b (sh (bookD b [])) (sh (nD m)) (sh (nD sz)) (sh (nD bt)) (sh (nD tp)) (sh (nD g)) (sh (.tup [nD p, nD q])) (sh (nD t)) none none) = .ok (intsD (t : Int) (n - t)) := by
        have hmn := min_n (T := Tb 19) (a := .cI 1000) (b := .bin .add (.var 10) (.cI 12)) (i := 1000) (j := t + 12) (ρ := EL ns nm b (sh (bookD b [])) (sh (nD m)) (sh (nD sz)) (sh (nD bt)) (sh (nD tp)) (sh (nD g)) (sh (.tup [nD p, nD q])) (sh (nD t)) none none) rfl (evn_add (x := t) (y := 12) rfl rfl)
        rw [← hn] at hmn
        rw [evIt_r2 (i := (t : Int)) (j := (n : Int)) rfl hmn (by rw [smallI_nat (by omega), smallI_nat (by rw [hn]; split <;> omega)]; rfl), show ((n : Int) - (t : Int)).toNat = n - t by omega]
      have loop := loopF_ints (f := fun x ρ => (bindT (.n 11) x ρ).bind fun ρ => rns (Tb 19) (.cons (.ife (.not (.call 76 (.cons (.call 78 (.cons (.var 3) (.cons (.var 11) (.cons (.var 4) .nil)))) (.cons (.var 9) .nil)))) (.cons (.ret (.cB false)) .nil) .nil) .nil) ρ) (n - t) (t : Int) (fun i => EL ns nm b (sh (bookD b [])) (sh (nD m)) (sh (nD sz)) (sh (nD bt)) (sh (nD tp)) (sh (nD g)) (sh (.tup [nD p, nD q])) (sh (nD t)) (lv none (t : Int) i) none) fun i hi => by
        have hn2 : n ≤ 1000 := by rw [hn]; split <;> omega
        refine bindO (x := EL ns nm b (sh (bookD b [])) (sh (nD m)) (sh (nD sz)) (sh (nD bt)) (sh (nD tp)) (sh (nD g)) (sh (.tup [nD p, nD q])) (sh (nD t)) (sh (.int ((t : Int) + i))) none) rfl ?_
        have e : ((t : Int) + (i : Int)) = ((m + (j + i) : Nat) : Int) := by omega
        rw [show lv none (t : Int) (i + 1) = sh (.int ((t : Int) + i)) from rfl, e]
        have g := below (sh (nD (m + (j + i)))) (.var 11) (j + i) (by omega) rfl
        rw [hj3 (j + i) (by omega) (by omega)] at g
        exact stp (rn_if_n (evNot (k := true) g)) rfl
      refine stp (rn_fr hi rfl loop) ?_
      refine stp (rn_if_n ?_) rfl
      have e := (ev_gt (T := Tb 19) (a := .var 10) (b := .var 4) (ρ := EL ns nm b (sh (bookD b [])) (sh (nD m)) (sh (nD sz)) (sh (nD bt)) (sh (nD tp)) (sh (nD g)) (sh (.tup [nD p, nD q])) (sh (nD t)) (lv none (t : Int) (n - t)) none) (i := (t : Int)) (j := (m : Int)) rfl rfl)
      by_cases z : m < t
      · rw [decide_eq_true (by omega)] at e
        have g := below (lv none (t : Int) (n - t)) (.bin .sub (.var 10) (.cI 1)) (j - 1) (by omega) ((evn_sub (x := t) (y := 1) rfl rfl (by omega)).trans (by rw [show t - 1 = m + (j - 1) by omega]))
        rw [hj4 (by omega)] at g
        exact ev_and_t e g
      · rw [decide_eq_false (by omega)] at e
        exact ev_and_f e
    obtain ⟨o11, s12⟩ := s12
    refine stepB s12 ?_
    exact fin _ _
end K80
end

section
set_option Elab.async false
set_option linter.all false
set_option maxRecDepth 100000
set_option maxHeartbeats 0
namespace K80
open PySem PySem.Spec PyProof.Rows L2 PD
def top (i : Nat) : Stmt := PySem.Challenge.pw_wishmet_k80_enough.main.body.getD i (.Pass ⟨0, 0, 0, 0⟩)
def d0 : He.DefD := ⟨("_law_cell", none), "_law_cell", "_law_cell", defArgs (top 33), defBody (top 33), defScope (top 33), [], []⟩
def t0 : FnT := ⟨["script", "k"], ["script", "k"], defBody (top 33), defScope (top 33)⟩
def d1 : He.DefD := ⟨("_law_numbers", none), "_law_numbers", "_law_numbers", defArgs (top 34), defBody (top 34), defScope (top 34), [], []⟩
def t1 : FnT := ⟨["script", "at", "many", "cell", "great", "numbers", "k"], ["script", "at", "many"], defBody (top 34), defScope (top 34)⟩
def d2 : He.DefD := ⟨("all_rows", none), "all_rows", "all_rows", defArgs (top 4), defBody (top 4), defScope (top 4), [], []⟩
def t2 : FnT := ⟨["many", "bound", "rows", "row", "number"], ["many", "bound"], defBody (top 4), defScope (top 4)⟩
def d3 : He.DefD := ⟨("is_whole", none), "is_whole", "is_whole", defArgs (top 1), defBody (top 1), defScope (top 1), [], []⟩
def t3 : FnT := ⟨["thing"], ["thing"], defBody (top 1), defScope (top 1)⟩
def d4 : He.DefD := ⟨("is_below", none), "is_below", "is_below", defArgs (top 2), defBody (top 2), defScope (top 2), [], []⟩
def t4 : FnT := ⟨["thing", "bound"], ["thing", "bound"], defBody (top 2), defScope (top 2)⟩
def d5 : He.DefD := ⟨("is_back", none), "is_back", "is_back", defArgs (top 29), defBody (top 29), defScope (top 29), [], []⟩
def t5 : FnT := ⟨["thing", "kind"], ["thing"], defBody (top 29), defScope (top 29)⟩
def d6 : He.DefD := ⟨("are_below", none), "are_below", "are_below", defArgs (top 3), defBody (top 3), defScope (top 3), [], []⟩
def t6 : FnT := ⟨["thing", "many", "bound", "number"], ["thing", "many", "bound"], defBody (top 3), defScope (top 3)⟩
def d7 : He.DefD := ⟨("orders_of", none), "orders_of", "orders_of", defArgs (top 28), defBody (top 28), defScope (top 28), [], []⟩
def t7 : FnT := ⟨["back", "trio", "p", "q", "r"], ["back", "trio"], defBody (top 28), defScope (top 28)⟩
def d8 : He.DefD := ⟨("are_barred", none), "are_barred", "are_barred", defArgs (top 30), defBody (top 30), defScope (top 30), [], []⟩
def t8 : FnT := ⟨["back", "thing", "at", "trio"], ["back", "thing"], defBody (top 30), defScope (top 30)⟩
def d9 : He.DefD := ⟨("Book", some "__init__"), "__init__", "Book.__init__", defArgs (inClass (top 31) 0), defBody (inClass (top 31) 0), defScope (inClass (top 31) 0), [], []⟩
def t9 : FnT := ⟨["self", "back", "barred", "trio"], ["self", "back", "barred"], defBody (inClass (top 31) 0), defScope (inClass (top 31) 0)⟩
def d10 : He.DefD := ⟨("_law_backs", none), "_law_backs", "_law_backs", defArgs (top 36), defBody (top 36), defScope (top 36), [], []⟩
def t10 : FnT := ⟨["backs"], [], defBody (top 36), defScope (top 36)⟩
def d15 : He.DefD := ⟨("_law_is_number", none), "_law_is_number", "_law_is_number", defArgs (top 35), defBody (top 35), defScope (top 35), [], []⟩
def t15 : FnT := ⟨["thing"], ["thing"], defBody (top 35), defScope (top 35)⟩
def d30 : He.DefD := ⟨("choices_of", none), "choices_of", "choices_of", defArgs (top 18), defBody (top 18), defScope (top 18), [], []⟩
def t30 : FnT := ⟨["n", "m", "told", "place"], ["n", "m"], defBody (top 18), defScope (top 18)⟩
def d46 : He.DefD := ⟨("is_number", none), "is_number", "is_number", defArgs (top 13), defBody (top 13), defScope (top 13), [], []⟩
def t46 : FnT := ⟨["thing", "least", "most"], ["thing", "least", "most"], defBody (top 13), defScope (top 13)⟩
def d67 : He.DefD := ⟨("_law_gcd", none), "_law_gcd", "_law_gcd", defArgs (top 37), defBody (top 37), defScope (top 37), [], []⟩
def t67 : FnT := ⟨["one", "other"], ["one", "other"], defBody (top 37), defScope (top 37)⟩
def d68 : He.DefD := ⟨("free_asked", none), "free_asked", "free_asked", defArgs (top 20), defBody (top 20), defScope (top 20), [], []⟩
def t68 : FnT := ⟨["book"], ["book"], defBody (top 20), defScope (top 20)⟩
def d69 : He.DefD := ⟨("power_of", none), "power_of", "power_of", defArgs (top 17), defBody (top 17), defScope (top 17), [], []⟩
def t69 : FnT := ⟨["base", "many", "told", "place"], ["base", "many"], defBody (top 17), defScope (top 17)⟩
def d70 : He.DefD := ⟨("bound_of", none), "bound_of", "bound_of", defArgs (top 21), defBody (top 21), defScope (top 21), [], []⟩
def t70 : FnT := ⟨["kinds", "n", "m", "rows"], ["kinds", "n", "m"], defBody (top 21), defScope (top 21)⟩
def d71 : He.DefD := ⟨("divisor_of", none), "divisor_of", "divisor_of", defArgs (top 16), defBody (top 16), defScope (top 16), [], []⟩
def t71 : FnT := ⟨["one", "other"], ["one", "other"], defBody (top 16), defScope (top 16)⟩
def d72 : He.DefD := ⟨("is_share", none), "is_share", "is_share", defArgs (top 23), defBody (top 23), defScope (top 23), [], []⟩
def t72 : FnT := ⟨["thing", "top", "bottom", "part"], ["thing"], defBody (top 23), defScope (top 23)⟩
def d73 : He.DefD := ⟨("is_falling", none), "is_falling", "is_falling", defArgs (top 24), defBody (top 24), defScope (top 24), [], []⟩
def t73 : FnT := ⟨["kinds", "n", "m", "rows"], ["kinds", "n", "m"], defBody (top 24), defScope (top 24)⟩
def d74 : He.DefD := ⟨("enough", none), "enough", "enough", defArgs (top 25), defBody (top 25), defScope (top 25), [], []⟩
def t74 : FnT := ⟨["book", "m", "share", "least", "top", "bottom", "rows", "n"], ["book", "m", "share"], defBody (top 25), defScope (top 25)⟩
def d75 : He.DefD := ⟨("_law_told", none), "_law_told", "_law_told", defArgs (top 38), defBody (top 38), defScope (top 38), [], []⟩
def t75 : FnT := ⟨["book", "m", "share", "e"], ["book", "m", "share"], defBody (top 38), defScope (top 38)⟩
def d76 : He.DefD := ⟨("_law_is_below", none), "_law_is_below", "_law_is_below", defArgs (top 39), defBody (top 39), defScope (top 39), [], []⟩
def t76 : FnT := ⟨["bound", "share"], ["bound", "share"], defBody (top 39), defScope (top 39)⟩
def d77 : He.DefD := ⟨("fraction", none), "fraction", "fraction", defArgs (top 19), defBody (top 19), defScope (top 19), [], []⟩
def t77 : FnT := ⟨["top", "bottom", "divisor"], ["top", "bottom"], defBody (top 19), defScope (top 19)⟩
def d78 : He.DefD := ⟨("lack_bound", none), "lack_bound", "lack_bound", defArgs (top 22), defBody (top 22), defScope (top 22), [], []⟩
def t78 : FnT := ⟨["book", "n", "m", "top", "bottom"], ["book", "n", "m"], defBody (top 22), defScope (top 22)⟩
def d79 : He.DefD := ⟨("law", none), "law", "law", defArgs (top 40), defBody (top 40), defScope (top 40), [], []⟩
def t79 : FnT := ⟨["script", "numbers", "back", "book", "m", "size", "bottom", "top", "piece", "share", "told", "n", "bad"], ["script"], defBody (top 40), defScope (top 40)⟩
def dx4 : He.DefD := ⟨("BadBook", some "__init__"), "__init__", "BadBook.__init__", defArgs (inClass (top 7) 0), defBody (inClass (top 7) 0), defScope (inClass (top 7) 0), [], []⟩
def tx4 : FnT := ⟨["self", "part"], ["self", "part"], defBody (inClass (top 7) 0), defScope (inClass (top 7) 0)⟩
def dx5 : He.DefD := ⟨("TooMany", some "__init__"), "__init__", "TooMany.__init__", defArgs (inClass (top 8) 0), defBody (inClass (top 8) 0), defScope (inClass (top 8) 0), [], []⟩
def tx5 : FnT := ⟨["self", "most"], ["self", "most"], defBody (inClass (top 8) 0), defScope (inClass (top 8) 0)⟩
def fn : List He.DefD := [d0, d1, d2, d3, d4, d5, d6, d7, d8, d9, d10, d15, d30, d46, d67, d68, d69, d70, d71, d72, d73, d74, d75, d76, d77, d78, d79, dx4, dx5]
def fa : List He.Fa := [.glo "is_whole", .glo "is_below", .glo "are_below", .glo "all_rows", .glo "WishError", .glo "BadBook", .glo "TooMany", .glo "NoNumber", .glo "NotFree", .glo "NoShare", .glo "is_number", .glo "divisor_of", .glo "power_of", .glo "choices_of", .glo "fraction", .glo "free_asked", .glo "bound_of", .glo "lack_bound", .glo "is_share", .glo "is_falling", .glo "enough", .glo "orders_of", .glo "is_back", .glo "are_barred", .glo "Book", .glo "_law_cell", .glo "_law_numbers", .glo "_law_is_number", .glo "_law_backs", .glo "_law_gcd", .glo "_law_told", .glo "_law_is_below", .glo "law", .int "MOST_PERSONS" 1000, .int "MOST_KINDS" 4, .free "abs", .free "all", .free "bool", .free "int", .free "isinstance", .free "len", .free "min", .free "range", .free "tuple", .cls "Book", .mkr "Book", .noat "Book" "back", .noat "Book" "barred", .noat "Book" "kinds", .noat "Book" "lets", .noat "Book" "known_knit", .exc "WishError", .exc "NoNumber", .exc "NotFree", .exc "NoShare"]
def en : List Str := ["WishError", "NoNumber", "NotFree", "NoShare", "BadBook", "TooMany"]
def efL : List Str := ["", "", "", "", "part", "most"]
def SX : Sx := ⟨[], (([some "_law_cell", some "_law_numbers", some "all_rows", some "is_whole", some "is_below", some "is_back", some "are_below", some "orders_of", some "are_barred", none, some "_law_backs", none, none, none, none, some "_law_is_number", none, none, none, none] : List (Option Str)) ++ ([none, none, none, none, none, none, none, none, none, none, some "choices_of", none, none, none, none, none, none, none, none, none] : List (Option Str)) ++ ([none, none, none, none, none, none, some "is_number", none, none, none, none, none, none, none, none, none, none, none, none, none] : List (Option Str)) ++ ([none, none, none, none, none, none, none, some "_law_gcd", some "free_asked", some "power_of", some "bound_of", some "divisor_of", some "is_share", some "is_falling", some "enough", some "_law_told", some "_law_is_below", some "fraction", some "lack_bound", some "law"] : List (Option Str)) ++ ([none] : List (Option Str))), ["Book"], en, [("MOST_PERSONS", 1000), ("MOST_KINDS", 4)], [], ["abs", "all", "bool", "int", "isinstance", "len", "min", "range", "tuple"], cfL, (([none, none, none, none, none, none, none, none, none, some 0, none, none, none, none, none, none, none, none, none, none] : List (Option Nat)) ++ ([none, none, none, none, none, none, none, none, none, none, none, none, none, none, none, none, none, none, none, none] : List (Option Nat)) ++ ([none, none, none, none, none, none, none, none, none, none, none, none, none, none, none, none, none, none, none, none] : List (Option Nat)) ++ ([none, none, none, none, none, none, none, none, none, none, none, none, none, none, none, none, none, none, none, none] : List (Option Nat)) ++ ([none] : List (Option Nat))), 4, efL, []⟩
theorem ok0 : t0.ok SX f0 = true := by kernel_rfl
theorem ok1 : t1.ok SX f1 = true := by kernel_rfl
theorem ok2 : t2.ok SX f2 = true := by kernel_rfl
theorem ok3 : t3.ok SX f3 = true := by kernel_rfl
theorem ok4 : t4.ok SX f4 = true := by kernel_rfl
theorem ok5 : t5.ok SX f5 = true := by kernel_rfl
theorem ok6 : t6.ok SX f6 = true := by kernel_rfl
theorem ok7 : t7.ok SX f7 = true := by kernel_rfl
theorem ok8 : t8.ok SX f8 = true := by kernel_rfl
theorem ok9 : t9.ok SX f9 = true := by kernel_rfl
theorem ok10 : t10.ok SX f10 = true := by kernel_rfl
theorem ok15 : t15.ok SX f15 = true := by kernel_rfl
theorem ok30 : t30.ok SX f30 = true := by kernel_rfl
theorem ok46 : t46.ok SX f46 = true := by kernel_rfl
theorem ok67 : t67.ok SX f67 = true := by kernel_rfl
theorem ok68 : t68.ok SX f68 = true := by kernel_rfl
theorem ok69 : t69.ok SX f69 = true := by kernel_rfl
theorem ok70 : t70.ok SX f70 = true := by kernel_rfl
theorem ok71 : t71.ok SX f71 = true := by kernel_rfl
theorem ok72 : t72.ok SX f72 = true := by kernel_rfl
theorem ok73 : t73.ok SX f73 = true := by kernel_rfl
theorem ok74 : t74.ok SX f74 = true := by kernel_rfl
theorem ok75 : t75.ok SX f75 = true := by kernel_rfl
theorem ok76 : t76.ok SX f76 = true := by kernel_rfl
theorem ok77 : t77.ok SX f77 = true := by kernel_rfl
theorem ok78 : t78.ok SX f78 = true := by kernel_rfl
theorem ok79 : t79.ok SX f79 = true := by kernel_rfl
theorem okx4 : tx4.oex "part" = true := by kernel_rfl
theorem okx5 : tx5.oex "most" = true := by kernel_rfl
def bs : PySem.W.Frag → Bool := moreB sub 4 en efL
abbrev R : PySem.W.OpenRow := PySem.W.OpenLaw.row PySem.Challenge.rw_wishmet_k80_enough
abbrev hk : PySem.W.Hook := hookP 5 fa fn bs
def ob (s : PySem.W.SharedT) : AlP := obsPG 5 fa fn bs (HandSHeadRun.getT s)
theorem ob_eq (s : PySem.W.SharedT) : ob s = hk.obs s.abs := obsPG_eq (HandSHeadRun.getT_eq s)
def loose : List PySem.Str := ((["is_whole", "is_below", "are_below", "all_rows", "WishError", "BadBook", "TooMany", "NoNumber", "NotFree", "NoShare", "is_number", "MOST_PERSONS", "divisor_of", "power_of", "choices_of", "fraction", "free_asked", "bound_of", "lack_bound", "is_share"] : List (PySem.Str)) ++ (["is_falling", "enough", "MOST_KINDS", "orders_of", "is_back", "are_barred", "Book", "_law_cell", "_law_numbers", "_law_is_number", "_law_backs", "_law_gcd", "_law_told", "_law_is_below"] : List (PySem.Str)))
theorem run (w : World) : HandSHeadRun.RunEq R (PySem.W.view R.prog [40]) hk ob 4000 loose w := by
  intro os
  kernel_rfl
def cfG (c : Nat) : List Str := (cfL[c]?).getD []
def caG (K : PySem.W.Frag) : Nat → Addr
  | 0 => He.ga K "Book"
  | _ => 0
def GG (K : PySem.W.Frag) : Sg := ⟨K, caG K, cfG, fun c => He.ga K (en.getD c ""), fun c => efL.getD c "", en.length, fun _ => false⟩
theorem facts {K : PySem.W.Frag} {h : Heap} {mg : Str → Option Value} (X : K.In h) (G : h.Ns mainGlobals mg) (c : He.SaysD fa fn K) (cb : bs K = true) : Facts (GG K) SX K mg B fi sub := by
  obtain ⟨fd0, F0⟩ := c.def_ 0 (d := d0) rfl
  obtain ⟨fd1, F1⟩ := c.def_ 1 (d := d1) rfl
  obtain ⟨fd2, F2⟩ := c.def_ 2 (d := d2) rfl
  obtain ⟨fd3, F3⟩ := c.def_ 3 (d := d3) rfl
  obtain ⟨fd4, F4⟩ := c.def_ 4 (d := d4) rfl
  obtain ⟨fd5, F5⟩ := c.def_ 5 (d := d5) rfl
  obtain ⟨fd6, F6⟩ := c.def_ 6 (d := d6) rfl
  obtain ⟨fd7, F7⟩ := c.def_ 7 (d := d7) rfl
  obtain ⟨fd8, F8⟩ := c.def_ 8 (d := d8) rfl
  obtain ⟨fd9, F9⟩ := c.def_ 9 (d := d9) rfl
  obtain ⟨fd10, F10⟩ := c.def_ 10 (d := d10) rfl
  obtain ⟨fd15, F15⟩ := c.def_ 11 (d := d15) rfl
  obtain ⟨fd30, F30⟩ := c.def_ 12 (d := d30) rfl
  obtain ⟨fd46, F46⟩ := c.def_ 13 (d := d46) rfl
  obtain ⟨fd67, F67⟩ := c.def_ 14 (d := d67) rfl
  obtain ⟨fd68, F68⟩ := c.def_ 15 (d := d68) rfl
  obtain ⟨fd69, F69⟩ := c.def_ 16 (d := d69) rfl
  obtain ⟨fd70, F70⟩ := c.def_ 17 (d := d70) rfl
  obtain ⟨fd71, F71⟩ := c.def_ 18 (d := d71) rfl
  obtain ⟨fd72, F72⟩ := c.def_ 19 (d := d72) rfl
  obtain ⟨fd73, F73⟩ := c.def_ 20 (d := d73) rfl
  obtain ⟨fd74, F74⟩ := c.def_ 21 (d := d74) rfl
  obtain ⟨fd75, F75⟩ := c.def_ 22 (d := d75) rfl
  obtain ⟨fd76, F76⟩ := c.def_ 23 (d := d76) rfl
  obtain ⟨fd77, F77⟩ := c.def_ 24 (d := d77) rfl
  obtain ⟨fd78, F78⟩ := c.def_ 25 (d := d78) rfl
  obtain ⟨fd79, F79⟩ := c.def_ 26 (d := d79) rfl
  obtain ⟨fdx4, Fx4⟩ := c.def_ 27 (d := dx4) rfl
  obtain ⟨fdx5, Fx5⟩ := c.def_ 28 (d := dx5) rfl
  have cb0 := cb
  obtain ⟨cb1, cb⟩ := bb cb
  obtain ⟨cb2, cb⟩ := bb cb
  obtain ⟨cb3, cb4⟩ := bb cb
  rw [List.all_eq_true] at cb1
  refine { hG := rfl, gi := ?gi, gs := ?gs, free := ?free, cls := ?cls, cfS := fun _ => rfl, cfN := ?cfN, mem := ⟨rfl, rfl⟩, exn := ?exn, efS := fun c f h => (by
      have h : efL[c]? = some f := h
      show efL.getD c "" = f
      rw [List.getD_eq_getElem?_getD, h]
      rfl), hN := fun c hn hc => (oexB_ok (oexs_at cb4 hn hc)).2.1, xin := ?xin, enE := rfl, ini := ?ini, kit := ?kit, kitV := ?kitV, exm := ?exm, hE := ?hE, fiOk := ?fiOk, fns := ?fns, mks := ?mks }
  case gi =>
    intro p hp
    rcases List.mem_cons.mp hp with rfl | hp
    · exact He.int_ok X G (c.fact 33 (f := .int "MOST_PERSONS" 1000) rfl)
    rcases List.mem_cons.mp hp with rfl | hp
    · exact He.int_ok X G (c.fact 34 (f := .int "MOST_KINDS" 4) rfl)
    cases hp
  case gs =>
    intro p hp
    cases hp
  case free =>
    intro x hp
    rcases List.mem_cons.mp hp with rfl | hp
    · exact He.free_ok X G (c.fact 35 (f := .free "abs") rfl)
    rcases List.mem_cons.mp hp with rfl | hp
    · exact He.free_ok X G (c.fact 36 (f := .free "all") rfl)
    rcases List.mem_cons.mp hp with rfl | hp
    · exact He.free_ok X G (c.fact 37 (f := .free "bool") rfl)
    rcases List.mem_cons.mp hp with rfl | hp
    · exact He.free_ok X G (c.fact 38 (f := .free "int") rfl)
    rcases List.mem_cons.mp hp with rfl | hp
    · exact He.free_ok X G (c.fact 39 (f := .free "isinstance") rfl)
    rcases List.mem_cons.mp hp with rfl | hp
    · exact He.free_ok X G (c.fact 40 (f := .free "len") rfl)
    rcases List.mem_cons.mp hp with rfl | hp
    · exact He.free_ok X G (c.fact 41 (f := .free "min") rfl)
    rcases List.mem_cons.mp hp with rfl | hp
    · exact He.free_ok X G (c.fact 42 (f := .free "range") rfl)
    rcases List.mem_cons.mp hp with rfl | hp
    · exact He.free_ok X G (c.fact 43 (f := .free "tuple") rfl)
    cases hp
  case cls =>
    intro k f hf
    match k, hf with
    | 0, hf =>
      rcases List.mem_cons.mp hf with rfl | hf
      · exact ⟨He.cls_ok (c.fact 44 (f := .cls "Book") rfl), He.noat_ok (c.fact 46 (f := .noat "Book" "back") rfl)⟩
      rcases List.mem_cons.mp hf with rfl | hf
      · exact ⟨He.cls_ok (c.fact 44 (f := .cls "Book") rfl), He.noat_ok (c.fact 47 (f := .noat "Book" "barred") rfl)⟩
      rcases List.mem_cons.mp hf with rfl | hf
      · exact ⟨He.cls_ok (c.fact 44 (f := .cls "Book") rfl), He.noat_ok (c.fact 48 (f := .noat "Book" "kinds") rfl)⟩
      rcases List.mem_cons.mp hf with rfl | hf
      · exact ⟨He.cls_ok (c.fact 44 (f := .cls "Book") rfl), He.noat_ok (c.fact 49 (f := .noat "Book" "lets") rfl)⟩
      rcases List.mem_cons.mp hf with rfl | hf
      · exact ⟨He.cls_ok (c.fact 44 (f := .cls "Book") rfl), He.noat_ok (c.fact 50 (f := .noat "Book" "known_knit") rfl)⟩
      cases hf
    | n + 1, hf => cases hf
  case cfN =>
    intro c
    match c with
    | 0 => exact nodupB_ok rfl
    | n + 1 => exact List.nodup_nil
  case exn =>
    intro k x hx
    match k, hx with
    | 0, hx =>
      cases hx
      exact ⟨He.glo_ok X G (c.fact 4 (f := .glo "WishError") rfl), fun _ => He.exc_ok (c.fact 51 (f := .exc "WishError") rfl)⟩
    | 1, hx =>
      cases hx
      exact ⟨He.glo_ok X G (c.fact 7 (f := .glo "NoNumber") rfl), fun _ => He.exc_ok (c.fact 52 (f := .exc "NoNumber") rfl)⟩
    | 2, hx =>
      cases hx
      exact ⟨He.glo_ok X G (c.fact 8 (f := .glo "NotFree") rfl), fun _ => He.exc_ok (c.fact 53 (f := .exc "NotFree") rfl)⟩
    | 3, hx =>
      cases hx
      exact ⟨He.glo_ok X G (c.fact 9 (f := .glo "NoShare") rfl), fun _ => He.exc_ok (c.fact 54 (f := .exc "NoShare") rfl)⟩
    | 4, hx =>
      cases hx
      exact ⟨He.glo_ok X G (c.fact 5 (f := .glo "BadBook") rfl), fun z => absurd z (by decide)⟩
    | 5, hx =>
      cases hx
      exact ⟨He.glo_ok X G (c.fact 6 (f := .glo "TooMany") rfl), fun z => absurd z (by decide)⟩
    | n + 6, hx => cases hx
  case xin =>
    intro k hc hn
    match k, hc, hn with
    | 0, hc, hn => exact absurd hn (by decide)
    | 1, hc, hn => exact absurd hn (by decide)
    | 2, hc, hn => exact absurd hn (by decide)
    | 3, hc, hn => exact absurd hn (by decide)
    | 4, hc, hn =>
      obtain ⟨o1, o2, o3, o4⟩ := oexB_ok (oexs_at cb4 hn hc)
      exact ⟨tx4, _, _, _, _, _, okx4, Fx4, o1, o3, o4, (FunD.bindsN (ps := tx4.ps) Fx4 fun _ _ _ _ _ _ us hl => match us, hl with | [_, _], _ => rfl)⟩
    | 5, hc, hn =>
      obtain ⟨o1, o2, o3, o4⟩ := oexB_ok (oexs_at cb4 hn hc)
      exact ⟨tx5, _, _, _, _, _, okx5, Fx5, o1, o3, o4, (FunD.bindsN (ps := tx5.ps) Fx5 fun _ _ _ _ _ _ us hl => match us, hl with | [_, _], _ => rfl)⟩
    | n + 6, hc, hn => exact absurd hc (Nat.not_lt.mpr (Nat.le_add_left _ _))
  case ini =>
    intro f k hx
    match f, hx with
    | 0, hx => cases hx
    | 1, hx => cases hx
    | 2, hx => cases hx
    | 3, hx => cases hx
    | 4, hx => cases hx
    | 5, hx => cases hx
    | 6, hx => cases hx
    | 7, hx => cases hx
    | 8, hx => cases hx
    | 9, hx => cases hx; rfl
    | 10, hx => cases hx
    | 11, hx => cases hx
    | 12, hx => cases hx
    | 13, hx => cases hx
    | 14, hx => cases hx
    | 15, hx => cases hx
    | 16, hx => cases hx
    | 17, hx => cases hx
    | 18, hx => cases hx
    | 19, hx => cases hx
    | 20, hx => cases hx
    | 21, hx => cases hx
    | 22, hx => cases hx
    | 23, hx => cases hx
    | 24, hx => cases hx
    | 25, hx => cases hx
    | 26, hx => cases hx
    | 27, hx => cases hx
    | 28, hx => cases hx
    | 29, hx => cases hx
    | 30, hx => cases hx
    | 31, hx => cases hx
    | 32, hx => cases hx
    | 33, hx => cases hx
    | 34, hx => cases hx
    | 35, hx => cases hx
    | 36, hx => cases hx
    | 37, hx => cases hx
    | 38, hx => cases hx
    | 39, hx => cases hx
    | 40, hx => cases hx
    | 41, hx => cases hx
    | 42, hx => cases hx
    | 43, hx => cases hx
    | 44, hx => cases hx
    | 45, hx => cases hx
    | 46, hx => cases hx
    | 47, hx => cases hx
    | 48, hx => cases hx
    | 49, hx => cases hx
    | 50, hx => cases hx
    | 51, hx => cases hx
    | 52, hx => cases hx
    | 53, hx => cases hx
    | 54, hx => cases hx
    | 55, hx => cases hx
    | 56, hx => cases hx
    | 57, hx => cases hx
    | 58, hx => cases hx
    | 59, hx => cases hx
    | 60, hx => cases hx
    | 61, hx => cases hx
    | 62, hx => cases hx
    | 63, hx => cases hx
    | 64, hx => cases hx
    | 65, hx => cases hx
    | 66, hx => cases hx
    | 67, hx => cases hx
    | 68, hx => cases hx
    | 69, hx => cases hx
    | 70, hx => cases hx
    | 71, hx => cases hx
    | 72, hx => cases hx
    | 73, hx => cases hx
    | 74, hx => cases hx
    | 75, hx => cases hx
    | 76, hx => cases hx
    | 77, hx => cases hx
    | 78, hx => cases hx
    | 79, hx => cases hx
    | 80, hx => cases hx
    | n + 81, hx => cases hx
  case kit => exact fun k e hk he => (kitB_ok cb2 hk he).1
  case kitV => exact fun k hk => kitVB_ok cb3 hk
  case exm => exact fun k e hk he => (kitB_ok cb2 hk he).2
  case hE =>
    intro k hk
    refine exB_ok (cb1 _ ?_)
    have hk : k < en.length := hk
    rw [show en.getD k "" = en[k] by simp [List.getD, List.getElem?_eq_getElem hk]]
    exact List.getElem_mem hk
  case fiOk => exact fun c y j h => idxS_ok h
  case fns =>
    intro f x hx
    match f, hx with
    | 0, hx =>
      cases hx
      exact ⟨t0, f0, _, _, _, _, _, rfl, rfl, .inl ⟨rfl, ok0⟩, F0, He.glo_ok X G (c.fact 25 (f := .glo "_law_cell") rfl), (FunD.bindsN (ps := ["script", "k"]) F0 fun _ _ _ _ _ _ us hl => match us, hl with | [_, _], _ => rfl)⟩
    | 1, hx =>
      cases hx
      exact ⟨t1, f1, _, _, _, _, _, rfl, rfl, .inl ⟨rfl, ok1⟩, F1, He.glo_ok X G (c.fact 26 (f := .glo "_law_numbers") rfl), (FunD.bindsN (ps := ["script", "at", "many"]) F1 fun _ _ _ _ _ _ us hl => match us, hl with | [_, _, _], _ => rfl)⟩
    | 2, hx =>
      cases hx
      exact ⟨t2, f2, _, _, _, _, _, rfl, rfl, .inl ⟨rfl, ok2⟩, F2, He.glo_ok X G (c.fact 3 (f := .glo "all_rows") rfl), (FunD.bindsN (ps := ["many", "bound"]) F2 fun _ _ _ _ _ _ us hl => match us, hl with | [_, _], _ => rfl)⟩
    | 3, hx =>
      cases hx
      exact ⟨t3, f3, _, _, _, _, _, rfl, rfl, .inl ⟨rfl, ok3⟩, F3, He.glo_ok X G (c.fact 0 (f := .glo "is_whole") rfl), (FunD.bindsN (ps := ["thing"]) F3 fun _ _ _ _ _ _ us hl => match us, hl with | [_], _ => rfl)⟩
    | 4, hx =>
      cases hx
      exact ⟨t4, f4, _, _, _, _, _, rfl, rfl, .inl ⟨rfl, ok4⟩, F4, He.glo_ok X G (c.fact 1 (f := .glo "is_below") rfl), (FunD.bindsN (ps := ["thing", "bound"]) F4 fun _ _ _ _ _ _ us hl => match us, hl with | [_, _], _ => rfl)⟩
    | 5, hx =>
      cases hx
      exact ⟨t5, f5, _, _, _, _, _, rfl, rfl, .inl ⟨rfl, ok5⟩, F5, He.glo_ok X G (c.fact 22 (f := .glo "is_back") rfl), (FunD.bindsN (ps := ["thing"]) F5 fun _ _ _ _ _ _ us hl => match us, hl with | [_], _ => rfl)⟩
    | 6, hx =>
      cases hx
      exact ⟨t6, f6, _, _, _, _, _, rfl, rfl, .inl ⟨rfl, ok6⟩, F6, He.glo_ok X G (c.fact 2 (f := .glo "are_below") rfl), (FunD.bindsN (ps := ["thing", "many", "bound"]) F6 fun _ _ _ _ _ _ us hl => match us, hl with | [_, _, _], _ => rfl)⟩
    | 7, hx =>
      cases hx
      exact ⟨t7, f7, _, _, _, _, _, rfl, rfl, .inl ⟨rfl, ok7⟩, F7, He.glo_ok X G (c.fact 21 (f := .glo "orders_of") rfl), (FunD.bindsN (ps := ["back", "trio"]) F7 fun _ _ _ _ _ _ us hl => match us, hl with | [_, _], _ => rfl)⟩
    | 8, hx =>
      cases hx
      exact ⟨t8, f8, _, _, _, _, _, rfl, rfl, .inl ⟨rfl, ok8⟩, F8, He.glo_ok X G (c.fact 23 (f := .glo "are_barred") rfl), (FunD.bindsN (ps := ["back", "thing"]) F8 fun _ _ _ _ _ _ us hl => match us, hl with | [_, _], _ => rfl)⟩
    | 9, hx => cases hx
    | 10, hx =>
      cases hx
      exact ⟨t10, f10, _, _, _, _, _, rfl, rfl, .inl ⟨rfl, ok10⟩, F10, He.glo_ok X G (c.fact 28 (f := .glo "_law_backs") rfl), (FunD.bindsN (ps := []) F10 fun _ _ _ _ _ _ us hl => match us, hl with | [], _ => rfl)⟩
    | 11, hx => cases hx
    | 12, hx => cases hx
    | 13, hx => cases hx
    | 14, hx => cases hx
    | 15, hx =>
      cases hx
      exact ⟨t15, f15, _, _, _, _, _, rfl, rfl, .inl ⟨rfl, ok15⟩, F15, He.glo_ok X G (c.fact 27 (f := .glo "_law_is_number") rfl), (FunD.bindsN (ps := ["thing"]) F15 fun _ _ _ _ _ _ us hl => match us, hl with | [_], _ => rfl)⟩
    | 16, hx => cases hx
    | 17, hx => cases hx
    | 18, hx => cases hx
    | 19, hx => cases hx
    | 20, hx => cases hx
    | 21, hx => cases hx
    | 22, hx => cases hx
    | 23, hx => cases hx
    | 24, hx => cases hx
    | 25, hx => cases hx
    | 26, hx => cases hx
    | 27, hx => cases hx
    | 28, hx => cases hx
    | 29, hx => cases hx
    | 30, hx =>
      cases hx
      exact ⟨t30, f30, _, _, _, _, _, rfl, rfl, .inl ⟨rfl, ok30⟩, F30, He.glo_ok X G (c.fact 13 (f := .glo "choices_of") rfl), (FunD.bindsN (ps := ["n", "m"]) F30 fun _ _ _ _ _ _ us hl => match us, hl with | [_, _], _ => rfl)⟩
    | 31, hx => cases hx
    | 32, hx => cases hx
    | 33, hx => cases hx
    | 34, hx => cases hx
    | 35, hx => cases hx
    | 36, hx => cases hx
    | 37, hx => cases hx
    | 38, hx => cases hx
    | 39, hx => cases hx
    | 40, hx => cases hx
    | 41, hx => cases hx
    | 42, hx => cases hx
    | 43, hx => cases hx
    | 44, hx => cases hx
    | 45, hx => cases hx
    | 46, hx =>
      cases hx
      exact ⟨t46, f46, _, _, _, _, _, rfl, rfl, .inl ⟨rfl, ok46⟩, F46, He.glo_ok X G (c.fact 10 (f := .glo "is_number") rfl), (FunD.bindsN (ps := ["thing", "least", "most"]) F46 fun _ _ _ _ _ _ us hl => match us, hl with | [_, _, _], _ => rfl)⟩
    | 47, hx => cases hx
    | 48, hx => cases hx
    | 49, hx => cases hx
    | 50, hx => cases hx
    | 51, hx => cases hx
    | 52, hx => cases hx
    | 53, hx => cases hx
    | 54, hx => cases hx
    | 55, hx => cases hx
    | 56, hx => cases hx
    | 57, hx => cases hx
    | 58, hx => cases hx
    | 59, hx => cases hx
    | 60, hx => cases hx
    | 61, hx => cases hx
    | 62, hx => cases hx
    | 63, hx => cases hx
    | 64, hx => cases hx
    | 65, hx => cases hx
    | 66, hx => cases hx
    | 67, hx =>
      cases hx
      exact ⟨t67, f67, _, _, _, _, _, rfl, rfl, .inl ⟨rfl, ok67⟩, F67, He.glo_ok X G (c.fact 29 (f := .glo "_law_gcd") rfl), (FunD.bindsN (ps := ["one", "other"]) F67 fun _ _ _ _ _ _ us hl => match us, hl with | [_, _], _ => rfl)⟩
    | 68, hx =>
      cases hx
      exact ⟨t68, f68, _, _, _, _, _, rfl, rfl, .inl ⟨rfl, ok68⟩, F68, He.glo_ok X G (c.fact 15 (f := .glo "free_asked") rfl), (FunD.bindsN (ps := ["book"]) F68 fun _ _ _ _ _ _ us hl => match us, hl with | [_], _ => rfl)⟩
    | 69, hx =>
      cases hx
      exact ⟨t69, f69, _, _, _, _, _, rfl, rfl, .inl ⟨rfl, ok69⟩, F69, He.glo_ok X G (c.fact 12 (f := .glo "power_of") rfl), (FunD.bindsN (ps := ["base", "many"]) F69 fun _ _ _ _ _ _ us hl => match us, hl with | [_, _], _ => rfl)⟩
    | 70, hx =>
      cases hx
      exact ⟨t70, f70, _, _, _, _, _, rfl, rfl, .inl ⟨rfl, ok70⟩, F70, He.glo_ok X G (c.fact 16 (f := .glo "bound_of") rfl), (FunD.bindsN (ps := ["kinds", "n", "m"]) F70 fun _ _ _ _ _ _ us hl => match us, hl with | [_, _, _], _ => rfl)⟩
    | 71, hx =>
      cases hx
      exact ⟨t71, f71, _, _, _, _, _, rfl, rfl, .inl ⟨rfl, ok71⟩, F71, He.glo_ok X G (c.fact 11 (f := .glo "divisor_of") rfl), (FunD.bindsN (ps := ["one", "other"]) F71 fun _ _ _ _ _ _ us hl => match us, hl with | [_, _], _ => rfl)⟩
    | 72, hx =>
      cases hx
      exact ⟨t72, f72, _, _, _, _, _, rfl, rfl, .inl ⟨rfl, ok72⟩, F72, He.glo_ok X G (c.fact 18 (f := .glo "is_share") rfl), (FunD.bindsN (ps := ["thing"]) F72 fun _ _ _ _ _ _ us hl => match us, hl with | [_], _ => rfl)⟩
    | 73, hx =>
      cases hx
      exact ⟨t73, f73, _, _, _, _, _, rfl, rfl, .inl ⟨rfl, ok73⟩, F73, He.glo_ok X G (c.fact 19 (f := .glo "is_falling") rfl), (FunD.bindsN (ps := ["kinds", "n", "m"]) F73 fun _ _ _ _ _ _ us hl => match us, hl with | [_, _, _], _ => rfl)⟩
    | 74, hx =>
      cases hx
      exact ⟨t74, f74, _, _, _, _, _, rfl, rfl, .inl ⟨rfl, ok74⟩, F74, He.glo_ok X G (c.fact 20 (f := .glo "enough") rfl), (FunD.bindsN (ps := ["book", "m", "share"]) F74 fun _ _ _ _ _ _ us hl => match us, hl with | [_, _, _], _ => rfl)⟩
    | 75, hx =>
      cases hx
      exact ⟨t75, f75, _, _, _, _, _, rfl, rfl, .inl ⟨rfl, ok75⟩, F75, He.glo_ok X G (c.fact 30 (f := .glo "_law_told") rfl), (FunD.bindsN (ps := ["book", "m", "share"]) F75 fun _ _ _ _ _ _ us hl => match us, hl with | [_, _, _], _ => rfl)⟩
    | 76, hx =>
      cases hx
      exact ⟨t76, f76, _, _, _, _, _, rfl, rfl, .inl ⟨rfl, ok76⟩, F76, He.glo_ok X G (c.fact 31 (f := .glo "_law_is_below") rfl), (FunD.bindsN (ps := ["bound", "share"]) F76 fun _ _ _ _ _ _ us hl => match us, hl with | [_, _], _ => rfl)⟩
    | 77, hx =>
      cases hx
      exact ⟨t77, f77, _, _, _, _, _, rfl, rfl, .inl ⟨rfl, ok77⟩, F77, He.glo_ok X G (c.fact 14 (f := .glo "fraction") rfl), (FunD.bindsN (ps := ["top", "bottom"]) F77 fun _ _ _ _ _ _ us hl => match us, hl with | [_, _], _ => rfl)⟩
    | 78, hx =>
      cases hx
      exact ⟨t78, f78, _, _, _, _, _, rfl, rfl, .inl ⟨rfl, ok78⟩, F78, He.glo_ok X G (c.fact 17 (f := .glo "lack_bound") rfl), (FunD.bindsN (ps := ["book", "n", "m"]) F78 fun _ _ _ _ _ _ us hl => match us, hl with | [_, _, _], _ => rfl)⟩
    | 79, hx =>
      cases hx
      exact ⟨t79, f79, _, _, _, _, _, rfl, rfl, .inl ⟨rfl, ok79⟩, F79, He.glo_ok X G (c.fact 32 (f := .glo "law") rfl), (FunD.bindsN (ps := ["script"]) F79 fun _ _ _ _ _ _ us hl => match us, hl with | [_], _ => rfl)⟩
    | 80, hx => cases hx
    | n + 81, hx => cases hx
  case mks =>
    intro k x f hx hi
    match f, hi with
    | 0, hi => cases hi
    | 1, hi => cases hi
    | 2, hi => cases hi
    | 3, hi => cases hi
    | 4, hi => cases hi
    | 5, hi => cases hi
    | 6, hi => cases hi
    | 7, hi => cases hi
    | 8, hi => cases hi
    | 9, hi =>
      cases hi
      cases hx
      exact ⟨t9, f9, _, _, _, _, _, rfl, rfl, rfl, ok9, F9, He.mkr_ok (c.fact 45 (f := .mkr "Book") rfl), He.glo_ok X G (c.fact 24 (f := .glo "Book") rfl), (FunD.bindsN (ps := ["self", "back", "barred"]) F9 fun _ _ _ _ _ _ us hl => match us, hl with | [_, _, _], _ => rfl)⟩
    | 10, hi => cases hi
    | 11, hi => cases hi
    | 12, hi => cases hi
    | 13, hi => cases hi
    | 14, hi => cases hi
    | 15, hi => cases hi
    | 16, hi => cases hi
    | 17, hi => cases hi
    | 18, hi => cases hi
    | 19, hi => cases hi
    | 20, hi => cases hi
    | 21, hi => cases hi
    | 22, hi => cases hi
    | 23, hi => cases hi
    | 24, hi => cases hi
    | 25, hi => cases hi
    | 26, hi => cases hi
    | 27, hi => cases hi
    | 28, hi => cases hi
    | 29, hi => cases hi
    | 30, hi => cases hi
    | 31, hi => cases hi
    | 32, hi => cases hi
    | 33, hi => cases hi
    | 34, hi => cases hi
    | 35, hi => cases hi
    | 36, hi => cases hi
    | 37, hi => cases hi
    | 38, hi => cases hi
    | 39, hi => cases hi
    | 40, hi => cases hi
    | 41, hi => cases hi
    | 42, hi => cases hi
    | 43, hi => cases hi
    | 44, hi => cases hi
    | 45, hi => cases hi
    | 46, hi => cases hi
    | 47, hi => cases hi
    | 48, hi => cases hi
    | 49, hi => cases hi
    | 50, hi => cases hi
    | 51, hi => cases hi
    | 52, hi => cases hi
    | 53, hi => cases hi
    | 54, hi => cases hi
    | 55, hi => cases hi
    | 56, hi => cases hi
    | 57, hi => cases hi
    | 58, hi => cases hi
    | 59, hi => cases hi
    | 60, hi => cases hi
    | 61, hi => cases hi
    | 62, hi => cases hi
    | 63, hi => cases hi
    | 64, hi => cases hi
    | 65, hi => cases hi
    | 66, hi => cases hi
    | 67, hi => cases hi
    | 68, hi => cases hi
    | 69, hi => cases hi
    | 70, hi => cases hi
    | 71, hi => cases hi
    | 72, hi => cases hi
    | 73, hi => cases hi
    | 74, hi => cases hi
    | 75, hi => cases hi
    | 76, hi => cases hi
    | 77, hi => cases hi
    | 78, hi => cases hi
    | 79, hi => cases hi
    | 80, hi => cases hi
    | n + 81, hi => cases hi
theorem lawF {P : Program} {w : World} {K : PySem.W.Frag} {h : Heap} {mg : Str → Option Value} {f : Addr} (X : K.In h) (G : h.Ns mainGlobals mg) (hfa : mg ("law" : Str) = some (.ref f)) (c : He.SaysD fa fn K) (cb : bs K = true) (fuel : Nat) :
    ∃ fd : FuncData, (∀ (s : Shared) (v : Value), BindsTo s fd ⟨[v], []⟩ [("script", v)]) ∧ ∀ base : Heap, K.In base → base.Ns mainGlobals mg → FnOk P w K mg base (L2.CX P w) (29 + 1 + 2 * 20) f fd ["script"] (fnSp (GG K) (callF B fi sub fuel 20 lawI)) := by
  obtain ⟨fd, F⟩ := c.def_ 26 (d := d79) rfl
  have e := hfa.symm.trans (He.glo_ok X G (c.fact 32 (f := .glo "law") rfl))
  cases e
  have b := FunD.bindsA (ps := ["script"]) F fun _ _ _ _ _ _ us hl => match us, hl with | [_], _ => rfl
  refine ⟨fd, fun s v => b s [v] rfl, fun base _ _ => ?_⟩
  have Fa := facts X G c cb
  have e : callF B fi sub fuel 20 lawI = f79.run (tab B fi sub fuel 19) := by
    funext ds
    rfl
  rw [e]
  exact fn_of_def (r := 29) Fa (lev Fa (.inr (Nat.le_refl 29)) 19) rfl rfl ok79 F
end K80
end

section
set_option Elab.async false
set_option linter.all false
set_option maxRecDepth 100000
set_option maxHeartbeats 0
open PySem PySem.W PySem.Calls PyProof.Rows
theorem PySem.Challenge.cw_wishmet_k80_enough_holds : PySem.Challenge.rw_wishmet_k80_enough.Holds := by
  w_on; o_law
  refine HandSHeadRun.head_any (r := OpenLaw.row PySem.Challenge.rw_wishmet_k80_enough) (q := view (OpenLaw.row PySem.Challenge.rw_wishmet_k80_enough).prog [40]) (H := K80.hk) (ob := K80.ob) (M := 4000) (loose := K80.loose) (d := HandSHeadRun.topDef (OpenLaw.row PySem.Challenge.rw_wishmet_k80_enough).prog 40) (kwd := []) K80.ob_eq
    (by kernel_rfl) (fun s => by kernel_rfl) K80.run (by kernel_rfl) (by kernel_rfl) (by kernel_rfl) (by rfl) (by first | assumption | decide +kernel) (by decide +kernel) ⟨rfl, rfl, rfl, rfl, rfl, by decide +kernel⟩ ?hw ?hc
  case hw => w_witness2
  case hc =>
    refine PD.walk_ofW (l := PySem.Challenge.rw_wishmet_k80_enough) (n := 63) (k := 29 + 1 + 2 * 20) (x := "script") (CX := fun w => L2.CX (PySem.Challenge.rw_wishmet_k80_enough).prog w) rfl (by decide) (by kernel_rfl) ⟨rfl, by decide, by decide⟩ ?F (fun w => PD.sub_pass)
    intro w mg fa h Y G hmg0
    obtain ⟨K, KX, c, cb⟩ := Y
    have hmg : mg ("law" : PySem.Str) = some (.ref fa) := by
      have e : (HandSHeadRun.topDef (OpenLaw.row PySem.Challenge.rw_wishmet_k80_enough).prog 40).name = ("law" : PySem.Str) := by kernel_rfl
      rw [← e]
      exact hmg0
    obtain ⟨fd, hb, hF⟩ := K80.lawF (P := (PySem.Challenge.rw_wishmet_k80_enough).prog) (w := w) KX G hmg c cb K80.fu
    exact ⟨K, fd, _, KX, hb, fun H a ns hl hO hS => PD.law_sp (G := K80.GG K) K80.math rfl H a ns hl hO hS, hF⟩
end
