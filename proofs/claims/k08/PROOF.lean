import PyProof.Rows.All
import Wide.All
import OpenK.AllK
import Wide.FinOn
import HandS.ForMost
import HandS.Exc
import HandS.TryOnly
import HandS.TryMany
import HandS.ExcOwn
import HandS.WordsExc
import HandS.TupAny
import HandS.TupLe
import HandS.IsInst
import HandS.Zip
import HandS.Style
import HandS.Deep
import HandS.Flow
import HandS.FStr
import HandS.Defaults
import HandS.HeadEnd
import HandS.Strs
import HandS.TupMul
import KE.DataEq
import KE.DataCmp
import KE.DataAny
import KE.DataFind
import KE.DataMinMax
import KE.SortData
import PyProof.ReprRoads
import KE.GoesEnum
import KE.GoesZip
import KE.GoesMore
import HandS.Comp
import HandS.ExcCtx
import HandS.Conv
import HandS.Text
import PyProof.RowDictHeap
import KE.KCallOwn
import HandS.Dict
import HandS.Ends
import HandS.Head0
import HandS.Head1
import HandS.Head2
import HandS.HeadHook1
import HandS.HeadHook2
import HandS.SetFor
import PyProof.SeqRoads2
import HandS.HotCalls
import HandS.ExcInit
import HandS.ExcInitHot
import HandS.RaiseFrom
import KE.KExcInit
import KE.KTryMore
import HandS.ExcField
import HandS.ExcIs
import HandS.SuiteRaise
import PyProof.StrBlock2
import HandS.OwnEq
import OpenK.KOps
import HandS.More
import PyProof.Rows.MatchSeqLen
import KE.GoesEnumKw
import HandS.DictComp
import HandS.WideBits
import PyProof.EqKinds
import KE.KDictDisplayH
import PyProof.SumWalkG
import PyProof.WalksMore
import KE.KDictPairs
import PyProof.DictUpdate
import HandS.Small
import PyProof.AutoSeq1
import KE.KDictZip
import KE.KUnpackStar
import PySem.Challenge.RW_gaugemoor_k08_whole_any_text_of_a_moor
set_option Elab.async false
set_option linter.all false
set_option maxRecDepth 100000
set_option maxHeartbeats 0
/-! GP: tuples of texts alone are known to the object (no dict of their own: their methods can be called); all others as ever. -/
namespace G
open PySem PySem.Spec PyProof.Rows L2
def isSV : V → Bool
  | .str _ => true
  | _ => false
def isRV : V → Bool
  | .ref _ => true
  | _ => false
def allS (vs : List V) : Bool := vs.all isSV || vs.all isRV
/-- a new tuple -/
def mkT (o : Obj) (vs : List V) : HO := if allS vs then .frz o (.tup vs) else .tup vs
def NoD (K : PySem.W.Frag) (H : Hp) (a : Addr) : Prop := (∃ o u, H a = some (.frz o u) ∧ o.dict = none) ∨ ∃ o, K.lookup a = some o ∧ o.dict = none
structure SqP (K : PySem.W.Frag) (H : Hp) (a : Addr) (vs : List V) : Prop where
  t : SqT K H a vs
  nd : allS vs = true → NoD K H a
  tp : allS vs = false → H a = some (.tup vs) ∨ ∃ o, K.lookup a = some o
section
variable {K : PySem.W.Frag} {H H' : Hp} {a : Addr} {vs : List V} {o : Obj}
theorem SqP.of (h : H a = some (mkT o vs)) (hd : o.dict = none) : SqP K H a vs := by
  unfold mkT at h
  cases e : allS vs with
  | true =>
    rw [e, if_pos rfl] at h
    exact ⟨.inl (.inr ⟨o, h⟩), fun _ => .inl ⟨o, _, h, hd⟩, fun z => absurd (e.symm.trans z) (by decide)⟩
  | false =>
    rw [e, if_neg Bool.false_ne_true] at h
    exact ⟨SqT.of h, fun z => absurd (e.symm.trans z) (by decide), fun _ => .inl h⟩
theorem SqP.tup (h : H a = some (.tup vs)) (e : allS vs = false) : SqP K H a vs :=
  ⟨SqT.of h, fun z => absurd (e.symm.trans z) (by decide), fun _ => .inl h⟩
theorem objOk_mkT {P : Program} {w : World} {h : Heap} {its : List Value} (e : h.get? a = some o) (z : vs.length ≤ sizeLine) (r : Vals vs its) (p : IsTup h a its.toArray) : ObjOk P w H h a (mkT o vs) := by
  unfold mkT
  cases allS vs with
  | true => rw [if_pos rfl]; exact ⟨e, z, its, r, p⟩
  | false => rw [if_neg Bool.false_ne_true]; exact ⟨z, its, r, p⟩
end
section
variable {X : Cx} {es : List Expr} {t : TA} {pos : Pos}
def tTupP (t : TA) : TE := fun σ H Q => t σ H fun xs H1 => xs.length ≤ sizeLine ∧ ∀ p o, H1 p = none → o.dict = none → Q (.ref p) (upd H1 p (mkT o xs))
theorem pe_tupP {x1} (h : PA X es t) : PE X (.Tuple es x1 pos) (tTupP t) := by
  refine ⟨fun pins s σ H Q I hq => ?_⟩
  refine wpAny_Tuple_spliced (thn (h.run pos pins s σ H _ I hq) fun us s1 ⟨xs, H1, I1, r, z, q⟩ => ⟨by rw [← r.length]; exact z, ?_⟩)
  have hf : H1 s1.heap.objs.size = none := I1.hok.fresh (Nat.le_refl _)
  refine ⟨.ref s1.heap.objs.size, upd H1 s1.heap.objs.size (mkT { cls := .type "tuple", data := .seq us.toArray } xs), I1.laid (t' := s1.toks) (fun b u e => Heap.get?_push_of_some _ e) (Nat.le_refl _) ?_, rfl, q _ _ hf rfl⟩
  exact objOk_mkT (Heap.get?_push_size _ rfl) z r ⟨_, Heap.get?_push_size _ rfl, rfl, _, rfl⟩
/-- t + u -/
def rCatP (K : PySem.W.Frag) : R2 := fun x y H Q => ∃ a b xs ys, x = .ref a ∧ y = .ref b ∧ SqT K H a xs ∧ SqT K H b ys ∧ xs.length + ys.length ≤ sizeLine ∧
  (xs = [] → Q (.ref b) H) ∧ (xs ≠ [] → ys = [] → Q (.ref a) H) ∧ (xs ≠ [] → ys ≠ [] → ∀ p o, H p = none → o.dict = none → Q (.ref p) (upd H p (mkT o (xs ++ ys))))
theorem op_catP : OpR X (binaryOp .Add) (rCatP X.K) := by
  intro pins s σ H x y v u Q I rx ry h
  obtain ⟨a, b, xs, ys, rfl, rfl, ha, hb, hz, q0, q1, q2⟩ := h
  by_cases hx : xs = []
  · subst hx
    exact op_catA pins s σ H _ _ v u Q I rx ry ⟨a, b, [], ys, rfl, rfl, ha, hb, hz, q0, fun z => absurd rfl z, fun z => absurd rfl z⟩
  · cases rx
    cases ry
    obtain ⟨its, r1, p1, _⟩ := I.tuple ha
    obtain ⟨its2, r2, p2, _⟩ := I.tuple hb
    refine HT.cat_tup p1 p2 (fun z => hx (r1.nil_iff.mp z)) (fun z => ⟨.ref a, H, I, rfl, q1 hx (r2.nil_iff.mp z)⟩) (fun z => ?_) (by rw [← r1.length, ← r2.length]; exact hz)
    refine ⟨.ref s.heap.objs.size, _, I.laid (t' := s.toks) (fun b ob q => Heap.get?_push_of_some _ q) (Nat.le_refl _) (objOk_mkT (Heap.get?_push_size _ rfl) (by rw [List.length_append]; exact hz) (r1.append r2) (IsTup.new _ _)), rfl, q2 hx (fun w => z (r2.nil_iff.mpr w)) _ _ (I.hok.fresh (Nat.le_refl _)) rfl⟩
/-- t[lo:hi] -/
def rSlP (K : PySem.W.Frag) : V → Option Int → Option Int → Hp → VK → Prop := fun x lo hi H Q => ∃ a xs, x = .ref a ∧ SqT K H a xs ∧
  (HT.sIx xs.length 0 lo = 0 ∧ HT.sIx xs.length xs.length hi = xs.length → Q (.ref a) H) ∧ (¬ (HT.sIx xs.length 0 lo = 0 ∧ HT.sIx xs.length xs.length hi = xs.length) → ∀ p o, H p = none → o.dict = none → Q (.ref p) (upd H p (mkT o (cutV xs lo hi))))
theorem sl_tupP : SlR X (rSlP X.K) := by
  intro pins s σ H x v vl vu lo hi sl Q I rx hs pl pu h
  obtain ⟨a, xs, rfl, hx, q1, q2⟩ := h
  by_cases hw : HT.sIx xs.length 0 lo = 0 ∧ HT.sIx xs.length xs.length hi = xs.length
  · exact sl_tupA pins s σ H _ v vl vu lo hi sl Q I rx hs pl pu ⟨a, xs, rfl, hx, q1, fun z => absurd hw z⟩
  · cases rx
    obtain ⟨its, r, ht, hz⟩ := I.tuple hx
    have hlen : its.toArray.size = xs.length := by rw [List.size_toArray]; exact r.length.symm
    refine ⟨"tuple", _, PyProof.Rows.slot_tuple_getitem.lookup, ht.typeIs, ?_⟩
    refine HT.getItem_tuple_cut ht hs pl pu (by rw [hlen]; exact hw) ?_ (by rw [hlen]; exact hz)
    rw [hlen]
    refine ⟨.ref s.heap.objs.size, _, I.laid (t' := s.toks) (fun b ob q => Heap.get?_push_of_some _ q) (Nat.le_refl _) (objOk_mkT (Heap.get?_push_size _ rfl) (Nat.le_trans (cutV_length xs lo hi) hz) ((r.drop (HT.sIx xs.length 0 lo)).take (HT.sIx xs.length xs.length hi - HT.sIx xs.length 0 lo)) (IsTup.new _ _)), rfl, q2 hw _ _ (I.hok.fresh (Nat.le_refl _)) rfl⟩
/-- tuple(xs) -/
theorem call_tupleP : CallR X (.type "tuple") (fun xs H Q => ∃ p ys, xs = [.ref p] ∧ ((SqL X.K H p ys ∧ ∀ l o, H l = none → o.dict = none → Q (.ref l) (upd H l (mkT o ys))) ∨ (SqT X.K H p ys ∧ Q (.ref p) H))) := by
  intro pins s σ H xs us Q I r h
  obtain ⟨p, ys, rfl, h⟩ := h
  obtain ⟨u, rfl, rx⟩ := vals1 r
  cases rx
  rcases h with ⟨hq, q⟩ | ⟨hq, q⟩
  · obtain ⟨its, r', pl, hz⟩ := I.list hq
    have hlen := r'.length
    refine call_tuple_list pl.isList (fun h' kp => ?_) (by simp only [List.size_toArray] <;> omega)
    have I1 : Inv X pins σ H { s with heap := h' } := I.kept (t' := s.toks) kp
    have I2 : Inv X pins σ (upd H h'.objs.size (mkT { cls := .type "tuple", data := .seq its.toArray } ys)) { s with heap := h'.push { cls := .type "tuple", data := .seq its.toArray } } :=
      I1.laid (t' := s.toks) (fun b o e => Heap.get?_push_of_some _ e) (Nat.le_refl _) (objOk_mkT (Heap.get?_push_size _ rfl) hz r' (IsTup.new _ _))
    exact ⟨.ref h'.objs.size, _, I2, rfl, q _ _ (I1.hok.fresh (Nat.le_refl _)) rfl⟩
  · obtain ⟨its, r', pl, hz⟩ := I.tuple hq
    exact call_tuple_same pl ⟨.ref p, H, I, rfl, q⟩
/-- t * k -/
def rRepP (K : PySem.W.Frag) : R2 := fun x y H Q => ∃ l k xs, x = .ref l ∧ y = .int k ∧ SqT K H l xs ∧ xs ≠ [] ∧ 2 ≤ k ∧ k ≤ 16000 ∧ xs.length ≤ 1000 ∧ ∀ p o, H p = none → o.dict = none → Q (.ref p) (upd H p (mkT o (List.replicate k.toNat xs).flatten))
variable {o e : Expr} {to : TE} {name : Str} {apos cpos : Pos} {id : String} {r : V → List V → Hp → VK → Prop}
def tBMP (K : PySem.W.Frag) (r : V → List V → Hp → VK → Prop) (to : TE) (t : TA) : TE := fun σ H Q => to σ H fun x H1 => (∃ a vs, x = .ref a ∧ SqT K H1 a vs ∧ NoD K H1 a) ∧ t σ H1 fun xs H2 => r x xs H2 Q
end
end G
/-! G0: data by value, how they lie in the abstract heap, the state of a body, what a reading by a plain program is. -/
namespace G
open PySem PySem.Spec PyProof.Rows L2
/-! ### data by value -/
inductive D where
  | non | bl (b : Bool) | int (i : Int) | str (x : Str)
  | tup (xs : List D) | lst (xs : List D) | scr (ns : List Int) | dct (ks vs : List D)
  | obj (c : Nat) (fs : List D)
  | exc (c : Nat) (fs : List D)
  | dti (ks : List (List Int)) (ws : List D)
/-- an exception: the number of its class, its fields -/
structure Ex where
  c : Nat
  fs : List D
/-- the classes by number: where the class stands, its attributes in order -/
abbrev Ct := Nat → Addr × List Str
abbrev Frag := PySem.W.Frag
def kD : Key → D
  | .inl i => .int i
  | .inr x => .str x
/-- an exception that was caught, at a -/
def exH (C : Addr) (dx : Option Addr) (a : Addr) : HO := .ext fun h => ∃ (oe : Obj) (vs : Array Value), h.get? a = some oe ∧ Zc (.ref C) dx oe ∧ oe.data = .fields vs
/-- the hash of a tuple of ints -/
def hashT (l : List Int) : Int := reduceHash (Builtin.Tuple.tupleHashOf (l.map hashInt))
/-- a dict at a, its keys tuples of ints, these at bs -/
def dtH (a : Addr) (kk : List (List Int)) (bs : List Addr) (vs : List V) : HO := .ext fun h => ∃ (o : Obj) (es : Array DictEntry) (ep : Nat) (us : List Value), h.get? a = some o ∧ o.ExactDict ∧ o.data = .dict es ep ∧ Vals vs us ∧
  es.toList = (kk.zip (bs.zip us)).map (fun x => ⟨hashT x.1, .ref x.2.1, x.2.2⟩) ∧ kk.Nodup ∧ kk.length ≤ sizeLine ∧ (a == sysModules) = false
/-- the keys of such a dict stand -/
structure DtK (K : Frag) (F : Hp) (kk : List (List Int)) (bs : List Addr) (vs : List V) : Prop where
  l1 : kk.length = vs.length
  l2 : bs.length = kk.length
  at_ : ∀ p ∈ kk.zip bs, SqT K F p.2 (p.1.map V.int)
mutual
/-- the datum lies at the value -/
def Rp (K : Frag) (ct : Ct) (F : Hp) : D → V → Prop
  | .non, v => v = .non
  | .bl b, v => v = .bl b
  | .int i, v => v = .int i
  | .str x, v => v = .str x
  | .tup xs, v => ∃ a vs, v = .ref a ∧ SqP K F a vs ∧ RpL K ct F xs vs
  | .lst xs, v => ∃ a vs, v = .ref a ∧ F a = some (.lst vs) ∧ RpL K ct F xs vs
  | .scr ns, v => ∃ a, v = .ref a ∧ SqL K F a (ns.map V.int)
  | .dct ks ws, v => ∃ a vs, v = .ref a ∧ RpL K ct F ws vs ∧
      ((∃ kk : List Key, ks = kk.map kD ∧ kk.length = vs.length ∧ F a = some (.dK (kk.zip vs))) ∨ (∃ kk : List (List Key), ks = .non :: kk.map (fun l => D.tup (l.map kD)) ∧ kk.length = vs.length ∧ F a = some (.dT (kk.zip vs))) ∨ (∃ (kk : List Key) (o : Obj), ks = .bl true :: kk.map kD ∧ kk.length = vs.length ∧ F a = some (.frz o (.dK (kk.zip vs)))))
  | .obj c fs, v => ∃ a dx vs, v = .ref a ∧ F a = some (.ins (ct c).1 dx ((ct c).2.zip vs)) ∧ vs.length ≤ (ct c).2.length ∧ RpL K ct F fs vs
  | .exc c fs, v => ∃ a dx, v = .ref a ∧ F a = some (exH (ct c).1 dx a) ∧ (((ct c).2 = [] ∧ dx = none ∧ fs = []) ∨ ∃ b vs, dx = some b ∧ F b = some (.xd ((ct c).2.zip vs)) ∧ vs.length = (ct c).2.length ∧ RpL K ct F fs vs)
  | .dti kk ws, v => ∃ a a' bs vs, v = .ref a ∧ RpL K ct F ws vs ∧ DtK K F kk bs vs ∧ F a = some (dtH a' kk bs vs)
def RpL (K : Frag) (ct : Ct) (F : Hp) : List D → List V → Prop
  | [], vs => vs = []
  | d :: ds, vs => ∃ v r, vs = v :: r ∧ Rp K ct F d v ∧ RpL K ct F ds r
end
section
variable {K : Frag} {ct : Ct} {F F' : Hp}
theorem same_rd {H H' : Hp} {a : Addr} {u : HO} (e : Same H H') (h : Rd H a u) : Rd H' a u := by
  rcases h with h | ⟨o, h⟩
  · exact .inl (e _ _ h)
  · exact .inr ⟨o, e _ _ h⟩
theorem same_l {H H' : Hp} {a : Addr} {xs : List V} (e : Same H H') (h : SqL K H a xs) : SqL K H' a xs := h.elim (fun z => .inl (same_rd e z)) .inr
theorem same_t0 {H H' : Hp} {a : Addr} {xs : List V} (e : Same H H') (h : SqT K H a xs) : SqT K H' a xs := h.elim (fun z => .inl (same_rd e z)) .inr
theorem same_nd {H H' : Hp} {a : Addr} (e : Same H H') (h : NoD K H a) : NoD K H' a := h.elim (fun ⟨o, u, z, d⟩ => .inl ⟨o, u, e _ _ z, d⟩) .inr
theorem same_p {H H' : Hp} {a : Addr} {xs : List V} (e : Same H H') (h : SqP K H a xs) : SqP K H' a xs := ⟨same_t0 e h.t, fun z => same_nd e (h.nd z), fun z => (h.tp z).elim (fun q => .inl (e _ _ q)) .inr⟩
theorem same_t {H H' : Hp} {a : Addr} {xs : List V} (e : Same H H') (h : SqP K H a xs) : SqT K H' a xs := same_t0 e h.t
theorem DtK.mono {H H' : Hp} {kk : List (List Int)} {bs : List Addr} {vs : List V} (e : Same H H') (h : DtK K H kk bs vs) : DtK K H' kk bs vs := ⟨h.l1, h.l2, fun p hp => same_t0 e (h.at_ p hp)⟩
mutual
theorem Rp.mono (e : Same F F') : ∀ {d : D} {v : V}, Rp K ct F d v → Rp K ct F' d v
  | .non, _, h | .bl _, _, h | .int _, _, h | .str _, _, h => by simpa only [Rp] using h
  | .tup xs, v, h => by
    simp only [Rp] at h ⊢
    obtain ⟨a, vs, rfl, h1, h2⟩ := h
    exact ⟨a, vs, rfl, same_p e h1, RpL.mono e h2⟩
  | .lst xs, v, h => by
    simp only [Rp] at h ⊢
    obtain ⟨a, vs, rfl, h1, h2⟩ := h
    exact ⟨a, vs, rfl, e _ _ h1, RpL.mono e h2⟩
  | .scr ns, v, h => by
    simp only [Rp] at h ⊢
    obtain ⟨a, rfl, h1⟩ := h
    exact ⟨a, rfl, same_l e h1⟩
  | .dct ks ws, v, h => by
    simp only [Rp] at h ⊢
    obtain ⟨a, vs, rfl, h1, h3⟩ := h
    refine ⟨a, vs, rfl, RpL.mono e h1, ?_⟩
    rcases h3 with ⟨kk, e1, e0, e2⟩ | ⟨kk, e1, e0, e2⟩ | ⟨kk, o, e1, e0, e2⟩
    · exact .inl ⟨kk, e1, e0, e _ _ e2⟩
    · exact .inr (.inl ⟨kk, e1, e0, e _ _ e2⟩)
    · exact .inr (.inr ⟨kk, o, e1, e0, e _ _ e2⟩)
  | .obj c fs, v, h => by
    simp only [Rp] at h ⊢
    obtain ⟨a, dx, vs, rfl, h1, h2, h3⟩ := h
    exact ⟨a, dx, vs, rfl, e _ _ h1, h2, RpL.mono e h3⟩
  | .exc c fs, v, h => by
    simp only [Rp] at h ⊢
    obtain ⟨a, dx, rfl, h1, h2⟩ := h
    exact ⟨a, dx, rfl, e _ _ h1, h2.elim .inl fun ⟨b, vs, e1, e2, e3, e4⟩ => .inr ⟨b, vs, e1, e _ _ e2, e3, RpL.mono e e4⟩⟩
  | .dti kk ws, v, h => by
    simp only [Rp] at h ⊢
    obtain ⟨a, a', bs, vs, rfl, h1, h2, h3⟩ := h
    exact ⟨a, a', bs, vs, rfl, RpL.mono e h1, h2.mono e, e _ _ h3⟩
theorem RpL.mono (e : Same F F') : ∀ {ds : List D} {vs : List V}, RpL K ct F ds vs → RpL K ct F' ds vs
  | [], _, h => by simpa only [RpL] using h
  | d :: ds, vs, h => by
    simp only [RpL] at h ⊢
    obtain ⟨v, r, rfl, h1, h2⟩ := h
    exact ⟨v, r, rfl, Rp.mono e h1, RpL.mono e h2⟩
end
theorem rp_non {v : V} : Rp K ct F .non v ↔ v = .non := by simp only [Rp]
theorem rp_bl {b : Bool} {v : V} : Rp K ct F (.bl b) v ↔ v = .bl b := by simp only [Rp]
theorem rp_int {i : Int} {v : V} : Rp K ct F (.int i) v ↔ v = .int i := by simp only [Rp]
theorem rp_str {x : Str} {v : V} : Rp K ct F (.str x) v ↔ v = .str x := by simp only [Rp]
theorem rp_tup {xs : List D} {v : V} : Rp K ct F (.tup xs) v ↔ ∃ a vs, v = .ref a ∧ SqP K F a vs ∧ RpL K ct F xs vs := by simp only [Rp]
theorem rp_lst {xs : List D} {v : V} : Rp K ct F (.lst xs) v ↔ ∃ a vs, v = .ref a ∧ F a = some (.lst vs) ∧ RpL K ct F xs vs := by simp only [Rp]
theorem rp_scr {ns : List Int} {v : V} : Rp K ct F (.scr ns) v ↔ ∃ a, v = .ref a ∧ SqL K F a (ns.map V.int) := by simp only [Rp]
theorem rp_obj {c : Nat} {fs : List D} {v : V} : Rp K ct F (.obj c fs) v ↔ ∃ a dx vs, v = .ref a ∧ F a = some (.ins (ct c).1 dx ((ct c).2.zip vs)) ∧ vs.length ≤ (ct c).2.length ∧ RpL K ct F fs vs := by simp only [Rp]
theorem rp_exc {c : Nat} {fs : List D} {v : V} : Rp K ct F (.exc c fs) v ↔ ∃ a dx, v = .ref a ∧ F a = some (exH (ct c).1 dx a) ∧ (((ct c).2 = [] ∧ dx = none ∧ fs = []) ∨ ∃ b vs, dx = some b ∧ F b = some (.xd ((ct c).2.zip vs)) ∧ vs.length = (ct c).2.length ∧ RpL K ct F fs vs) := by simp only [Rp]
theorem rp_dti {kk : List (List Int)} {ws : List D} {v : V} : Rp K ct F (.dti kk ws) v ↔ ∃ a a' bs vs, v = .ref a ∧ RpL K ct F ws vs ∧ DtK K F kk bs vs ∧ F a = some (dtH a' kk bs vs) := by simp only [Rp]
theorem rpl_nil {vs : List V} : RpL K ct F [] vs ↔ vs = [] := by simp only [RpL]
theorem rpl_cons {d : D} {ds : List D} {vs : List V} : RpL K ct F (d :: ds) vs ↔ ∃ v r, vs = v :: r ∧ Rp K ct F d v ∧ RpL K ct F ds r := by simp only [RpL]
theorem RpL.length : ∀ {ds : List D} {vs : List V}, RpL K ct F ds vs → ds.length = vs.length
  | [], vs, h => by rw [rpl_nil] at h; subst h; rfl
  | d :: ds, vs, h => by
    rw [rpl_cons] at h
    obtain ⟨v, r, rfl, _, h2⟩ := h
    simp [RpL.length h2]
theorem RpL.get : ∀ {ds : List D} {vs : List V} {i : Nat} {d : D}, RpL K ct F ds vs → ds[i]? = some d → ∃ v, vs[i]? = some v ∧ Rp K ct F d v
  | [], vs, i, d, h, e => by simp at e
  | x :: ds, vs, 0, d, h, e => by
    rw [rpl_cons] at h
    obtain ⟨v, r, rfl, h1, h2⟩ := h
    simp at e; subst e
    exact ⟨v, rfl, h1⟩
  | x :: ds, vs, i + 1, d, h, e => by
    rw [rpl_cons] at h
    obtain ⟨v, r, rfl, h1, h2⟩ := h
    obtain ⟨w, e1, e2⟩ := RpL.get (i := i) h2 (by simpa using e)
    exact ⟨w, by simpa using e1, e2⟩
theorem RpL.append : ∀ {ds es : List D} {vs ws : List V}, RpL K ct F ds vs → RpL K ct F es ws → RpL K ct F (ds ++ es) (vs ++ ws)
  | [], es, vs, ws, h, h' => by rw [rpl_nil] at h; subst h; exact h'
  | d :: ds, es, vs, ws, h, h' => by
    rw [rpl_cons] at h
    obtain ⟨v, r, rfl, h1, h2⟩ := h
    exact rpl_cons.mpr ⟨v, r ++ ws, rfl, h1, h2.append h'⟩
theorem RpL.one {d : D} {v : V} (h : Rp K ct F d v) : RpL K ct F [d] [v] := rpl_cons.mpr ⟨v, [], rfl, h, rpl_nil.mpr rfl⟩
theorem RpL.two {d e : D} {v w : V} (h : Rp K ct F d v) (h' : Rp K ct F e w) : RpL K ct F [d, e] [v, w] := rpl_cons.mpr ⟨v, [w], rfl, h, .one h'⟩
theorem RpL.of_all : ∀ {ds : List D} {vs : List V}, ds.length = vs.length → (∀ (i : Nat) d v, ds[i]? = some d → vs[i]? = some v → Rp K ct F d v) → RpL K ct F ds vs
  | [], [], _, _ => rpl_nil.mpr rfl
  | [], _ :: _, h, _ => by simp at h
  | _ :: _, [], h, _ => by simp at h
  | d :: ds, v :: vs, h, q => rpl_cons.mpr ⟨v, vs, rfl, q 0 d v rfl rfl, RpL.of_all (by simpa using h) fun i d' v' a b => q (i + 1) d' v' (by simpa using a) (by simpa using b)⟩
theorem RpL.take {ds : List D} {vs : List V} (h : RpL K ct F ds vs) (n : Nat) : RpL K ct F (ds.take n) (vs.take n) := by
  refine RpL.of_all (by simp [h.length]) fun i d v a b => ?_
  rw [List.getElem?_take] at a b
  split at a
  · obtain ⟨w, e1, e2⟩ := h.get a
    simp_all
  · cases a
theorem RpL.drop {ds : List D} {vs : List V} (h : RpL K ct F ds vs) (n : Nat) : RpL K ct F (ds.drop n) (vs.drop n) := by
  refine RpL.of_all (by simp [h.length]) fun i d v a b => ?_
  rw [List.getElem?_drop] at a b
  obtain ⟨w, e1, e2⟩ := h.get a
  simp_all
theorem RpL.set {ds : List D} {vs : List V} {d : D} {v : V} (h : RpL K ct F ds vs) (r : Rp K ct F d v) (n : Nat) : RpL K ct F (ds.set n d) (vs.set n v) := by
  refine RpL.of_all (by simp [h.length]) fun i d' v' a b => ?_
  by_cases e : n = i
  · subst e
    have h1 : n < ds.length := by have := (List.getElem?_eq_some_iff.mp a).1; simpa using this
    have h2 : n < vs.length := by rw [← h.length]; exact h1
    rw [List.getElem?_set_self h1] at a
    rw [List.getElem?_set_self h2] at b
    cases a; cases b; exact r
  · rw [List.getElem?_set_ne e] at a b
    obtain ⟨w, e1, e2⟩ := h.get a
    simp_all
theorem RpL.reverse {ds : List D} {vs : List V} (h : RpL K ct F ds vs) : RpL K ct F ds.reverse vs.reverse := by
  refine RpL.of_all (by simp [h.length]) fun i d v a b => ?_
  have hi : i < ds.length := by have := (List.getElem?_eq_some_iff.mp a).1; simpa using this
  have hl := h.length
  rw [List.getElem?_reverse hi] at a
  rw [List.getElem?_reverse (by omega)] at b
  obtain ⟨w, e1, e2⟩ := h.get a
  rw [hl] at e1
  simp_all
theorem rpl_ints : ∀ {ns : List Int}, RpL K ct F (ns.map D.int) (ns.map V.int)
  | [] => rpl_nil.mpr rfl
  | n :: ns => rpl_cons.mpr ⟨_, _, rfl, rp_int.mpr rfl, rpl_ints⟩
end
/-! ### plain programs -/
abbrev Env := List (Option D)
inductive Rs (α : Type) where
  | ok (a : α) (ρ : Env)
  | er (x : Ex) (ρ : Env)
  | no
abbrev M (α : Type) := Env → Rs α
def M.ret {α : Type} (a : α) : M α := fun ρ => .ok a ρ
def M.bind {α β : Type} (m : M α) (f : α → M β) : M β := fun ρ => match m ρ with
  | .ok a ρ' => f a ρ'
  | .er x ρ' => .er x ρ'
  | .no => .no
def M.opt {α : Type} (o : Option α) : M α := fun ρ => match o with
  | some a => .ok a ρ
  | none => .no
/-! ### the heap's growth -/
/-- frozen things stay, new frozen ones are new, all stays but what is owned -/
structure Ext (own : Addr → Prop) (F H F' H' : Hp) : Prop where
  f : Same F F'
  g : ∀ b, F' b ≠ none → F b ≠ none ∨ H b = none
  h : ∀ b o, H b = some o → ¬ own b → H' b = some o
  n : ∀ b, H b ≠ none → H' b ≠ none
theorem Ext.refl {own : Addr → Prop} {F H : Hp} : Ext own F H F H := ⟨Same.refl _, fun _ h => .inl h, fun _ _ h _ => h, fun _ h => h⟩
theorem Ext.trans {own : Addr → Prop} {F H F1 H1 F2 H2 : Hp} (a : Ext own F H F1 H1) (b : Ext own F1 H1 F2 H2) : Ext own F H F2 H2 where
  f := a.f.trans b.f
  g := fun c hc => by
    rcases b.g c hc with q | q
    · exact a.g c q
    · right
      cases e : H c with
      | none => rfl
      | some o => exact absurd q (a.n c (by rw [e]; simp))
  h := fun c o e hc => b.h c o (a.h c o e hc) hc
  n := fun c hc => b.n c (a.n c hc)
theorem Ext.sub {own own' : Addr → Prop} {F H F' H' : Hp} (a : Ext own F H F' H') (h : ∀ b, own b → own' b ∨ H b = none) : Ext own' F H F' H' :=
  ⟨a.f, a.g, fun b o e hb => a.h b o e fun hm => (h b hm).elim hb fun z => (by rw [z] at e; cases e), a.n⟩
/-- behind a start at F0 H0: what is owned is handed in or new -/
theorem Ext.then {own io : Addr → Prop} {F0 H0 F H F' H' : Hp} (a : Ext io F0 H0 F H) (b : Ext own F H F' H') (h : ∀ c, own c → io c ∨ H0 c = none) : Ext io F0 H0 F' H' where
  f := a.f.trans b.f
  g := fun c hc => by
    rcases b.g c hc with q | q
    · exact a.g c q
    · right
      cases e : H0 c with
      | none => rfl
      | some o => exact absurd q (a.n c (by rw [e]; simp))
  h := fun c o e hc => b.h c o (a.h c o e hc) fun z => (h c z).elim hc fun q => by rw [q] at e; cases e
  n := fun c hc => b.n c (a.n c hc)
/-- a new object, frozen | not frozen -/
theorem Ext.newF {own : Addr → Prop} {F H : Hp} {p : Addr} {o : HO} (hs : Same F H) (hp : H p = none) : Ext own F H (upd F p o) (upd H p o) := by
  have fp : F p = none := hs.free hp
  refine ⟨fun b x e => ?_, fun b hb => ?_, fun b x e _ => ?_, fun b hb => ?_⟩
  · rw [upd_ne (ne_of_none e fp)]; exact e
  · by_cases z : b = p
    · subst z; exact .inr hp
    · rw [upd_ne z] at hb; exact .inl hb
  · rw [upd_ne (ne_of_none e hp)]; exact e
  · by_cases z : b = p
    · subst z; rw [upd_same]; simp
    · rw [upd_ne z]; exact hb
theorem Ext.newH {own : Addr → Prop} {F H : Hp} {p : Addr} {o : HO} (hp : H p = none) : Ext own F H F (upd H p o) := by
  refine ⟨Same.refl _, fun b hb => .inl hb, fun b x e _ => ?_, fun b hb => ?_⟩
  · rw [upd_ne (ne_of_none e hp)]; exact e
  · by_cases z : b = p
    · subst z; rw [upd_same]; simp
    · rw [upd_ne z]; exact hb
/-- an object of one's own is written -/
theorem Ext.wr {own : Addr → Prop} {F H : Hp} {p : Addr} {o : HO} (hp : own p) : Ext own F H F (upd H p o) := by
  refine ⟨Same.refl _, fun b hb => .inl hb, fun b x e hb => ?_, fun b hb => ?_⟩
  · rw [upd_ne (fun z => hb (by rw [z]; exact hp))]; exact e
  · by_cases z : b = p
    · subst z; rw [upd_same]; simp
    · rw [upd_ne z]; exact hb
/-- what stands unfrozen is frozen -/
theorem Ext.frz {own : Addr → Prop} {F0 H0 F H : Hp} {p : Addr} {o : HO} (a : Ext own F0 H0 F H) (hp : H0 p = none) (hf : F p = none) : Ext own F0 H0 (upd F p o) H where
  f := fun b x e => by
    have := a.f b x e
    rw [upd_ne (ne_of_none this hf)]; exact this
  g := fun b hb => by
    by_cases z : b = p
    · subst z; exact .inr hp
    · rw [upd_ne z] at hb; exact a.g b hb
  h := a.h
  n := a.n
theorem same_new {F H : Hp} {p : Addr} {o : HO} (hs : Same F H) (hp : H p = none) : Same (upd F p o) (upd H p o) := fun b x e => by
  by_cases z : b = p
  · subst z; rw [upd_same] at e ⊢; exact e
  · rw [upd_ne z] at e ⊢; exact hs b x e
theorem same_updF {F : Hp} {p : Addr} {o : HO} (hp : F p = none) : Same F (upd F p o) := fun b x e => by rw [upd_ne (ne_of_none e hp)]; exact e
theorem same_updH {F H : Hp} {p : Addr} {o : HO} (hs : Same F H) (hp : F p = none) : Same F (upd H p o) := fun b x e => by
  rw [upd_ne (ne_of_none e hp)]; exact hs b x e
theorem same_frz {F H : Hp} {p : Addr} {o : HO} (hs : Same F H) (hp : H p = some o) : Same (upd F p o) H := fun b x e => by
  by_cases z : b = p
  · subst z; rw [upd_same] at e; cases e; exact hp
  · rw [upd_ne z] at e; exact hs b x e
/-! ### the state of a body -/
/-- a slot: frozen data; an object of the body's own; one that was handed in to be changed -/
inductive Kd where
  | fz | ow | io
  deriving DecidableEq
/-- what is fixed through a body: the layer's K, the classes, the entry, the objects handed in to be changed (slot, address) -/
structure Fx where
  K : Frag
  ct : Ct
  F0 : Hp
  H0 : Hp
  ios : List (Nat × Addr)
def Fx.io (C : Fx) (a : Addr) : Prop := ∃ i, (i, a) ∈ C.ios
/-- an object that is one's own: a list, a dict -/
inductive OwO (K : Frag) (ct : Ct) (F : Hp) : D → HO → Prop
  | lst {ds : List D} {vs : List V} : RpL K ct F ds vs → OwO K ct F (.lst ds) (.lst vs)
  | dK {kk : List Key} {ws : List D} {vs : List V} : RpL K ct F ws vs → kk.length = vs.length → OwO K ct F (.dct (kk.map kD) ws) (.dK (kk.zip vs))
  | dT {kk : List (List Key)} {ws : List D} {vs : List V} : RpL K ct F ws vs → kk.length = vs.length → OwO K ct F (.dct (.non :: kk.map (fun l => D.tup (l.map kD))) ws) (.dT (kk.zip vs))
  | ins {c : Nat} {dx : Addr} {fs : List D} {vs : List V} : RpL K ct F fs vs → vs.length ≤ (ct c).2.length → OwO K ct F (.obj c fs) (.ins (ct c).1 dx ((ct c).2.zip vs))
  | dL {kk : List Key} {o : Obj} {ws : List D} {vs : List V} : RpL K ct F ws vs → kk.length = vs.length → OwO K ct F (.dct (.bl true :: kk.map kD) ws) (.frz o (.dK (kk.zip vs)))
  | dti {a : Addr} {kk : List (List Int)} {bs : List Addr} {ws : List D} {vs : List V} : RpL K ct F ws vs → DtK K F kk bs vs → OwO K ct F (.dti kk ws) (dtH a kk bs vs)
theorem OwO.mono {K : Frag} {ct : Ct} {F F' : Hp} {d : D} {o : HO} (e : Same F F') (h : OwO K ct F d o) : OwO K ct F' d o := by
  cases h with
  | lst h => exact .lst (h.mono e)
  | dK h l => exact .dK (h.mono e) l
  | dT h l => exact .dT (h.mono e) l
  | ins h l => exact .ins (h.mono e) l
  | dti h l => exact .dti (h.mono e) (l.mono e)
  | dL h l => exact .dL (h.mono e) l
/-- one's own object, frozen -/
theorem OwO.frz {K : Frag} {ct : Ct} {F : Hp} {d : D} {o : HO} {a : Addr} (h : OwO K ct F d o) (ha : F a = none) : Rp K ct (upd F a o) d (.ref a) := by
  have e : Same F (upd F a o) := same_updF ha
  cases h with
  | lst h => exact rp_lst.mpr ⟨a, _, rfl, upd_same, h.mono e⟩
  | dK h l => simp only [Rp]; exact ⟨a, _, rfl, h.mono e, .inl ⟨_, rfl, l, upd_same⟩⟩
  | dT h l => simp only [Rp]; exact ⟨a, _, rfl, h.mono e, .inr (.inl ⟨_, rfl, l, upd_same⟩)⟩
  | dL h l => simp only [Rp]; exact ⟨a, _, rfl, h.mono e, .inr (.inr ⟨_, _, rfl, l, upd_same⟩)⟩
  | ins h l => exact rp_obj.mpr ⟨a, _, _, rfl, upd_same, l, h.mono e⟩
  | dti h l => exact rp_dti.mpr ⟨a, _, _, _, rfl, h.mono e, l.mono e, upd_same⟩
/-- what may be read: the top may be somebody's own, all within is frozen -/
def Rv (K : Frag) (ct : Ct) (F H : Hp) (d : D) (v : V) : Prop := match d with
  | .lst ds => ∃ a vs, v = .ref a ∧ H a = some (.lst vs) ∧ RpL K ct F ds vs
  | .dct ks ws => ∃ a o, v = .ref a ∧ H a = some o ∧ OwO K ct F (.dct ks ws) o
  | .obj c fs => ∃ a o, v = .ref a ∧ H a = some o ∧ OwO K ct F (.obj c fs) o
  | .dti ks ws => ∃ a o, v = .ref a ∧ H a = some o ∧ OwO K ct F (.dti ks ws) o
  | d => Rp K ct F d v
theorem Rv.of {K : Frag} {ct : Ct} {F H : Hp} {d : D} {v : V} (hs : Same F H) (r : Rp K ct F d v) : Rv K ct F H d v := by
  cases d with
  | lst ds =>
    rw [rp_lst] at r
    obtain ⟨a, vs, rfl, h1, h2⟩ := r
    exact ⟨a, vs, rfl, hs _ _ h1, h2⟩
  | dct ks ws =>
    simp only [Rp] at r
    obtain ⟨a, vs, rfl, h1, h3⟩ := r
    rcases h3 with ⟨kk, e1, e0, e2⟩ | ⟨kk, e1, e0, e2⟩ | ⟨kk, o, e1, e0, e2⟩
    · subst e1
      exact ⟨a, _, rfl, hs _ _ e2, .dK h1 e0⟩
    · subst e1
      exact ⟨a, _, rfl, hs _ _ e2, .dT h1 e0⟩
    · subst e1
      exact ⟨a, _, rfl, hs _ _ e2, .dL h1 e0⟩
  | obj c fs =>
    obtain ⟨a, dx, vs, rfl, h1, h2, h3⟩ := rp_obj.mp r
    exact ⟨a, _, rfl, hs _ _ h1, .ins h3 h2⟩
  | dti ks ws =>
    obtain ⟨a, a', bs, vs, rfl, h1, h2, h3⟩ := rp_dti.mp r
    exact ⟨a, _, rfl, hs _ _ h3, .dti h1 h2⟩
  | _ => exact r
theorem Rv.own {K : Frag} {ct : Ct} {F H : Hp} {d : D} {a : Addr} {o : HO} (h : H a = some o) (r : OwO K ct F d o) : Rv K ct F H d (.ref a) := by
  cases r with
  | lst r => exact ⟨a, _, rfl, h, r⟩
  | dK r l => exact ⟨a, _, rfl, h, .dK r l⟩
  | dT r l => exact ⟨a, _, rfl, h, .dT r l⟩
  | ins r l => exact ⟨a, _, rfl, h, .ins r l⟩
  | dti r l => exact ⟨a, _, rfl, h, .dti r l⟩
  | dL r l => exact ⟨a, _, rfl, h, .dL r l⟩
def RvL (K : Frag) (ct : Ct) (F H : Hp) : List D → List V → Prop
  | [], vs => vs = []
  | d :: ds, vs => ∃ v r, vs = v :: r ∧ Rv K ct F H d v ∧ RvL K ct F H ds r
theorem RvL.of {K : Frag} {ct : Ct} {F H : Hp} (hs : Same F H) : ∀ {ds : List D} {vs : List V}, RpL K ct F ds vs → RvL K ct F H ds vs
  | [], vs, h => by rw [rpl_nil] at h; exact h
  | d :: ds, vs, h => by
    rw [rpl_cons] at h
    obtain ⟨v, r, rfl, h1, h2⟩ := h
    exact ⟨v, r, rfl, .of hs h1, .of hs h2⟩
section
variable {K : Frag} {ct : Ct} {F H : Hp} {v : V}
theorem rv_non : Rv K ct F H .non v ↔ v = .non := by show Rp K ct F _ v ↔ _; exact rp_non
theorem rv_bl {b : Bool} : Rv K ct F H (.bl b) v ↔ v = .bl b := by show Rp K ct F _ v ↔ _; exact rp_bl
theorem rv_int {i : Int} : Rv K ct F H (.int i) v ↔ v = .int i := by show Rp K ct F _ v ↔ _; exact rp_int
theorem rv_str {x : Str} : Rv K ct F H (.str x) v ↔ v = .str x := by show Rp K ct F _ v ↔ _; exact rp_str
theorem rv_tup {xs : List D} : Rv K ct F H (.tup xs) v ↔ ∃ a vs, v = .ref a ∧ SqP K F a vs ∧ RpL K ct F xs vs := by show Rp K ct F _ v ↔ _; exact rp_tup
theorem rv_lst {xs : List D} : Rv K ct F H (.lst xs) v ↔ ∃ a vs, v = .ref a ∧ H a = some (.lst vs) ∧ RpL K ct F xs vs := Iff.rfl
theorem rv_scr {ns : List Int} : Rv K ct F H (.scr ns) v ↔ ∃ a, v = .ref a ∧ SqL K F a (ns.map V.int) := by show Rp K ct F _ v ↔ _; exact rp_scr
theorem rv_obj {c : Nat} {fs : List D} : Rv K ct F H (.obj c fs) v ↔ ∃ a o, v = .ref a ∧ H a = some o ∧ OwO K ct F (.obj c fs) o := Iff.rfl
theorem rv_dct {ks ws : List D} : Rv K ct F H (.dct ks ws) v ↔ ∃ a o, v = .ref a ∧ H a = some o ∧ OwO K ct F (.dct ks ws) o := Iff.rfl
theorem rv_dti {ks : List (List Int)} {ws : List D} : Rv K ct F H (.dti ks ws) v ↔ ∃ a o, v = .ref a ∧ H a = some o ∧ OwO K ct F (.dti ks ws) o := Iff.rfl
end
/-- slot i owns a -/
def Ow1 (Γ : List Kd) (σ : L2.St) (i : Nat) (a : Addr) : Prop := (Γ[i]? = some .ow ∨ Γ[i]? = some .io) ∧ σ[i]? = some (some (.ref a))
def Own (Γ : List Kd) (σ : L2.St) (a : Addr) : Prop := ∃ i, Ow1 Γ σ i a
structure RS (C : Fx) (Γ : List Kd) (F : Hp) (ρ : Env) (σ : L2.St) (H : Hp) : Prop where
  sub : Same F H
  ext : Ext C.io C.F0 C.H0 F H
  ln : ρ.length = σ.length
  lg : Γ.length = σ.length
  no : ∀ i : Nat, ρ[i]? = some none → σ[i]? = some none
  fz : ∀ (i : Nat) d, Γ[i]? = some .fz → ρ[i]? = some (some d) → ∃ u, σ[i]? = some (some u) ∧ Rp C.K C.ct F d u
  ow : ∀ (i : Nat) d k, Γ[i]? = some k → k ≠ .fz → ρ[i]? = some (some d) → ∃ a o, σ[i]? = some (some (.ref a)) ∧ F a = none ∧ H a = some o ∧ OwO C.K C.ct F d o ∧ (C.io a ∨ C.H0 a = none) ∧ (k = .ow → C.H0 a = none)
  dj : ∀ i j a, Ow1 Γ σ i a → Ow1 Γ σ j a → i = j
  hio : ∀ p ∈ C.ios, Γ[p.1]? = some .io ∧ σ[p.1]? = some (some (.ref p.2)) ∧ ∃ d, ρ[p.1]? = some (some d)
/-- what is known behind a body: the objects handed in, as they stand -/
structure RO (C : Fx) (F : Hp) (ρ : Env) (H : Hp) : Prop where
  sub : Same F H
  ext : Ext C.io C.F0 C.H0 F H
  io : ∀ p ∈ C.ios, ∃ d o, ρ[p.1]? = some (some d) ∧ F p.2 = none ∧ H p.2 = some o ∧ OwO C.K C.ct F d o
section
variable {C : Fx} {Γ : List Kd} {F F' H H' : Hp} {ρ : Env} {σ : L2.St}
theorem RS.ro (r : RS C Γ F ρ σ H) : RO C F ρ H := ⟨r.sub, r.ext, fun p hp => by
  obtain ⟨h1, h2, d, h3⟩ := r.hio p hp
  obtain ⟨a, o, e1, e2, e3, e4, _⟩ := r.ow _ d _ h1 (by decide) h3
  rw [h2] at e1
  cases e1
  exact ⟨d, o, h3, e2, e3, e4⟩⟩
/-- a slot that owns an address holds a datum -/
theorem RS.owned (r : RS C Γ F ρ σ H) {i : Nat} {a : Addr} (h : Ow1 Γ σ i a) : ∃ k d o, Γ[i]? = some k ∧ k ≠ .fz ∧ ρ[i]? = some (some d) ∧ F a = none ∧ H a = some o ∧ OwO C.K C.ct F d o ∧ (C.io a ∨ C.H0 a = none) ∧ (k = .ow → C.H0 a = none) := by
  obtain ⟨hk, hs⟩ := h
  have hi : i < ρ.length := by rw [r.ln]; exact (List.getElem?_eq_some_iff.mp hs).1
  obtain ⟨k, e1, e2⟩ : ∃ k, Γ[i]? = some k ∧ k ≠ .fz := by
    rcases hk with h | h
    · exact ⟨_, h, by decide⟩
    · exact ⟨_, h, by decide⟩
  cases e : ρ[i]? with
  | none => simp at e; omega
  | some x =>
    cases x with
    | none => rw [r.no i e] at hs; cases hs
    | some d =>
      obtain ⟨b, o, q1, q2, q3, q4, q5, q6⟩ := r.ow i d k e1 e2 e
      rw [hs] at q1
      cases q1
      exact ⟨k, d, o, e1, e2, rfl, q2, q3, q4, q5, q6⟩
theorem RS.own_io (r : RS C Γ F ρ σ H) : ∀ c, Own Γ σ c → C.io c ∨ C.H0 c = none := fun c ⟨i, h⟩ => by
  obtain ⟨k, d, o, _, _, _, _, _, _, q, _⟩ := r.owned h
  exact q
theorem RS.own_some (r : RS C Γ F ρ σ H) {c : Addr} (h : Own Γ σ c) : F c = none ∧ ∃ o, H c = some o := by
  obtain ⟨i, h⟩ := h
  obtain ⟨k, d, o, _, _, _, q1, q2, _⟩ := r.owned h
  exact ⟨q1, o, q2⟩
/-- the heap grows, nothing owned is touched -/
theorem RS.grow (r : RS C Γ F ρ σ H) (e : Ext (fun _ => False) F H F' H') (hs : Same F' H') : RS C Γ F' ρ σ H' where
  sub := hs
  ext := r.ext.then e fun _ z => z.elim
  ln := r.ln
  lg := r.lg
  no := r.no
  fz := fun i d h1 h2 => by
    obtain ⟨u, q1, q2⟩ := r.fz i d h1 h2
    exact ⟨u, q1, q2.mono e.f⟩
  ow := fun i d k h1 h2 h3 => by
    obtain ⟨a, o, q1, q2, q3, q4, q5, q6⟩ := r.ow i d k h1 h2 h3
    refine ⟨a, o, q1, ?_, e.h a o q3 (fun z => z), q4.mono e.f, q5, q6⟩
    cases z : F' a with
    | none => rfl
    | some x =>
      rcases e.g a (by rw [z]; simp) with w | w
      · exact absurd q2 w
      · rw [q3] at w; cases w
  dj := r.dj
  hio := r.hio
/-- a new frozen object -/
theorem RS.newF (r : RS C Γ F ρ σ H) {p : Addr} {o : HO} (hp : H p = none) : RS C Γ (upd F p o) ρ σ (upd H p o) := r.grow (Ext.newF r.sub hp) (same_new r.sub hp)
theorem RS.newH (r : RS C Γ F ρ σ H) {p : Addr} {o : HO} (hp : H p = none) : RS C Γ F ρ σ (upd H p o) := r.grow (Ext.newH hp) (same_updH r.sub (r.sub.free hp))
/-- slot i's own object is written -/
theorem RS.write (r : RS C Γ F ρ σ H) {i : Nat} {a : Addr} {d : D} {o : HO} (h : Ow1 Γ σ i a) (q : OwO C.K C.ct F d o) : RS C Γ F (ρ.set i (some d)) σ (upd H a o) := by
  obtain ⟨k, d0, o0, e1, e2, e3, e4, e5, e6, e7, e8⟩ := r.owned h
  have hi : i < ρ.length := by rw [r.ln]; exact (List.getElem?_eq_some_iff.mp h.2).1
  refine ⟨same_updH r.sub e4, r.ext.then (own := fun b => b = a) (Ext.wr rfl) (fun c hc => by subst hc; exact e7), by simpa using r.ln, r.lg, fun j hj => ?_, fun j d' h1 h2 => ?_, fun j d' k' h1 h2 h3 => ?_, r.dj, fun p hp => ?_⟩
  · by_cases z : i = j
    · subst z; rw [List.getElem?_set_self hi] at hj; cases hj
    · rw [List.getElem?_set_ne z] at hj; exact r.no j hj
  · have z : i ≠ j := fun z => by subst z; rw [e1] at h1; cases h1; exact e2 rfl
    rw [List.getElem?_set_ne z] at h2
    exact r.fz j d' h1 h2
  · by_cases z : i = j
    · subst z
      rw [e1] at h1; cases h1
      rw [List.getElem?_set_self hi] at h3
      cases h3
      exact ⟨a, o, h.2, e4, upd_same, q, e7, e8⟩
    · rw [List.getElem?_set_ne z] at h3
      obtain ⟨b, ob, q1, q2, q3, q4, q5, q6⟩ := r.ow j d' k' h1 h2 h3
      have nb : b ≠ a := fun zz => by
        subst zz
        refine z (r.dj i j b h ⟨?_, q1⟩)
        cases k' with
        | fz => exact absurd rfl h2
        | ow => exact .inl h1
        | io => exact .inr h1
      exact ⟨b, ob, q1, q2, by rw [upd_ne nb]; exact q3, q4, q5, q6⟩
  · obtain ⟨q1, q2, d', q3⟩ := r.hio p hp
    refine ⟨q1, q2, ?_⟩
    by_cases z : i = p.1
    · subst z; exact ⟨d, List.getElem?_set_self hi⟩
    · exact ⟨d', by rw [List.getElem?_set_ne z]; exact q3⟩
/-- a slot (none that was handed in) takes frozen data -/
theorem RS.setF (r : RS C Γ F ρ σ H) {i : Nat} {d : D} {v : V} (hk : ∃ k, Γ[i]? = some k ∧ k ≠ .io) (q : Rp C.K C.ct F d v) : RS C (Γ.set i .fz) F (ρ.set i (some d)) (σ.set i (some v)) H := by
  obtain ⟨k, hk, hki⟩ := hk
  have hi : i < Γ.length := (List.getElem?_eq_some_iff.mp hk).1
  have hi1 : i < σ.length := by rw [← r.lg]; exact hi
  have hi2 : i < ρ.length := by rw [r.ln]; exact hi1
  have o1 : ∀ {j a}, Ow1 (Γ.set i .fz) (σ.set i (some v)) j a → j ≠ i ∧ Ow1 Γ σ j a := fun {j a} ⟨h1, h2⟩ => by
    have z : i ≠ j := fun z => by subst z; rw [List.getElem?_set_self hi] at h1; rcases h1 with h1 | h1 <;> cases h1
    rw [List.getElem?_set_ne z] at h1 h2
    exact ⟨z.symm, h1, h2⟩
  refine ⟨r.sub, r.ext, by simpa using r.ln, by simpa using r.lg, fun j hj => ?_, fun j d' h1 h2 => ?_, fun j d' k' h1 h2 h3 => ?_, fun j l a a1 a2 => r.dj j l a (o1 a1).2 (o1 a2).2, fun p hp => ?_⟩
  · by_cases z : i = j
    · subst z; rw [List.getElem?_set_self hi2] at hj; cases hj
    · rw [List.getElem?_set_ne z] at hj ⊢; exact r.no j hj
  · by_cases z : i = j
    · subst z
      rw [List.getElem?_set_self hi2] at h2; cases h2
      exact ⟨v, List.getElem?_set_self hi1, q⟩
    · rw [List.getElem?_set_ne z] at h1 h2 ⊢
      exact r.fz j d' h1 h2
  · have z : i ≠ j := fun z => by subst z; rw [List.getElem?_set_self hi] at h1; cases h1; exact h2 rfl
    rw [List.getElem?_set_ne z] at h1 h3 ⊢
    exact r.ow j d' k' h1 h2 h3
  · obtain ⟨q1, q2, d', q3⟩ := r.hio p hp
    have z : i ≠ p.1 := fun z => by rw [← z, hk] at q1; cases q1; exact hki rfl
    rw [List.getElem?_set_ne z, List.getElem?_set_ne z, List.getElem?_set_ne z]
    exact ⟨q1, q2, d', q3⟩
/-- a slot takes an object of its own -/
theorem RS.setO (r : RS C Γ F ρ σ H) {i : Nat} {d : D} {a : Addr} {o : HO} (hk : ∃ k, Γ[i]? = some k ∧ k ≠ .io) (q : OwO C.K C.ct F d o) (ha : F a = none) (hh : H a = some o) (h0 : C.H0 a = none) (new : ¬ Own Γ σ a) :
    RS C (Γ.set i .ow) F (ρ.set i (some d)) (σ.set i (some (.ref a))) H := by
  obtain ⟨k, hk, hki⟩ := hk
  have hi : i < Γ.length := (List.getElem?_eq_some_iff.mp hk).1
  have hi1 : i < σ.length := by rw [← r.lg]; exact hi
  have hi2 : i < ρ.length := by rw [r.ln]; exact hi1
  have o1 : ∀ {j b}, Ow1 (Γ.set i .ow) (σ.set i (some (.ref a))) j b → (j = i ∧ b = a) ∨ (j ≠ i ∧ Ow1 Γ σ j b) := fun {j b} ⟨h1, h2⟩ => by
    by_cases z : i = j
    · subst z; rw [List.getElem?_set_self hi1] at h2; cases h2; exact .inl ⟨rfl, rfl⟩
    · rw [List.getElem?_set_ne z] at h1 h2
      exact .inr ⟨fun q => z q.symm, h1, h2⟩
  refine ⟨r.sub, r.ext, by simpa using r.ln, by simpa using r.lg, fun j hj => ?_, fun j d' h1 h2 => ?_, fun j d' k' h1 h2 h3 => ?_, fun j l b a1 a2 => ?_, fun p hp => ?_⟩
  · by_cases z : i = j
    · subst z; rw [List.getElem?_set_self hi2] at hj; cases hj
    · rw [List.getElem?_set_ne z] at hj ⊢; exact r.no j hj
  · have z : i ≠ j := fun z => by subst z; rw [List.getElem?_set_self hi] at h1; cases h1
    rw [List.getElem?_set_ne z] at h1 h2 ⊢
    exact r.fz j d' h1 h2
  · by_cases z : i = j
    · subst z
      rw [List.getElem?_set_self hi] at h1; cases h1
      rw [List.getElem?_set_self hi2] at h3; cases h3
      exact ⟨a, o, List.getElem?_set_self hi1, ha, hh, q, .inr h0, fun _ => h0⟩
    · rw [List.getElem?_set_ne z] at h1 h3 ⊢
      exact r.ow j d' k' h1 h2 h3
  · rcases o1 a1 with ⟨e1, e2⟩ | ⟨e1, e2⟩
    · rcases o1 a2 with ⟨e3, _⟩ | ⟨e3, e4⟩
      · rw [e1, e3]
      · subst e2; exact absurd ⟨l, e4⟩ new
    · rcases o1 a2 with ⟨e3, e4⟩ | ⟨e3, e4⟩
      · subst e4; exact absurd ⟨j, e2⟩ new
      · exact r.dj j l b e2 e4
  · obtain ⟨q1, q2, d', q3⟩ := r.hio p hp
    have z : i ≠ p.1 := fun z => by rw [← z, hk] at q1; cases q1; exact hki rfl
    rw [List.getElem?_set_ne z, List.getElem?_set_ne z, List.getElem?_set_ne z]
    exact ⟨q1, q2, d', q3⟩
/-- a slot's own object is frozen -/
theorem RS.frz (r : RS C Γ F ρ σ H) {i : Nat} (hk : ∃ k, Γ[i]? = some k ∧ k ≠ .io) : ∃ F', Same F F' ∧ RS C (Γ.set i .fz) F' ρ σ H := by
  obtain ⟨k, hk, hki⟩ := hk
  have hi : i < Γ.length := (List.getElem?_eq_some_iff.mp hk).1
  have hi2 : i < ρ.length := by rw [r.ln, ← r.lg]; exact hi
  have o1 : ∀ {j a}, Ow1 (Γ.set i .fz) σ j a → j ≠ i ∧ Ow1 Γ σ j a := fun {j a} ⟨h1, h2⟩ => by
    have z : i ≠ j := fun z => by subst z; rw [List.getElem?_set_self hi] at h1; rcases h1 with h1 | h1 <;> cases h1
    rw [List.getElem?_set_ne z] at h1
    exact ⟨z.symm, h1, h2⟩
  have hio : ∀ p ∈ C.ios, (Γ.set i .fz)[p.1]? = some .io ∧ σ[p.1]? = some (some (.ref p.2)) ∧ ∃ d, ρ[p.1]? = some (some d) := fun p hp => by
    obtain ⟨q1, q2, d', q3⟩ := r.hio p hp
    have z : i ≠ p.1 := fun z => by rw [← z, hk] at q1; cases q1; exact hki rfl
    rw [List.getElem?_set_ne z]
    exact ⟨q1, q2, d', q3⟩
  by_cases hn : k = .fz ∨ ρ[i]? = some none
  · refine ⟨F, Same.refl _, r.sub, r.ext, r.ln, by simpa using r.lg, r.no, fun j d h1 h2 => ?_, fun j d k' h1 h2 h3 => ?_, fun j l a a1 a2 => r.dj j l a (o1 a1).2 (o1 a2).2, hio⟩
    · by_cases z : i = j
      · subst z
        rcases hn with e | e
        · subst e; exact r.fz i d hk h2
        · rw [e] at h2; cases h2
      · rw [List.getElem?_set_ne z] at h1; exact r.fz j d h1 h2
    · have z : i ≠ j := fun z => by subst z; rw [List.getElem?_set_self hi] at h1; cases h1; exact h2 rfl
      rw [List.getElem?_set_ne z] at h1
      exact r.ow j d k' h1 h2 h3
  · have hkf : k ≠ .fz := fun z => hn (.inl z)
    obtain ⟨d, hd⟩ : ∃ d, ρ[i]? = some (some d) := by
      cases e : ρ[i]? with
      | none => simp at e; omega
      | some x =>
        cases x with
        | none => exact absurd (.inr e) hn
        | some d => exact ⟨d, rfl⟩
    obtain ⟨a, o, e1, e2, e3, e4, e5, e6⟩ := r.ow i d k hk hkf hd
    have ho : k = .ow := by cases k with
      | fz => exact absurd rfl hkf
      | ow => rfl
      | io => exact absurd rfl hki
    have e7 := e6 ho
    have sm : Same F (upd F a o) := same_updF e2
    refine ⟨upd F a o, sm, same_frz r.sub e3, r.ext.frz e7 e2, r.ln, by simpa using r.lg, r.no, fun j d' h1 h2 => ?_, fun j d' k' h1 h2 h3 => ?_, fun j l b a1 a2 => r.dj j l b (o1 a1).2 (o1 a2).2, hio⟩
    · by_cases z : i = j
      · subst z
        rw [hd] at h2; cases h2
        exact ⟨.ref a, e1, e4.frz e2⟩
      · rw [List.getElem?_set_ne z] at h1
        obtain ⟨u, q1, q2⟩ := r.fz j d' h1 h2
        exact ⟨u, q1, q2.mono sm⟩
    · have z : i ≠ j := fun z => by subst z; rw [List.getElem?_set_self hi] at h1; cases h1; exact h2 rfl
      rw [List.getElem?_set_ne z] at h1
      obtain ⟨b, ob, q1, q2, q3, q4, q5, q6⟩ := r.ow j d' k' h1 h2 h3
      have nb : b ≠ a := fun zz => by
        subst zz
        refine z (r.dj i j b ⟨.inl (by rw [hk, ho]), e1⟩ ⟨?_, q1⟩)
        cases k' with
        | fz => exact absurd rfl h2
        | ow => exact .inl h1
        | io => exact .inr h1
      exact ⟨b, ob, q1, by rw [upd_ne nb]; exact q2, q3, q4.mono sm, q5, q6⟩
end
/-! ### readings by a plain program -/
/-- how an exception lies: its class, its own dict -/
def RX (K : Frag) (ct : Ct) (F H : Hp) (x : Ex) (cl : Value) (dx : Option Addr) : Prop :=
  cl = .ref (ct x.c).1 ∧ (((ct x.c).2 = [] ∧ dx = none ∧ x.fs = []) ∨ ∃ b vs, dx = some b ∧ F b = some (.xd ((ct x.c).2.zip vs)) ∧ vs.length = (ct x.c).2.length ∧ RpL K ct F x.fs vs)
/-- what is known where an exception leaves: behind a body (none), within a try (the slots' kinds) -/
def RE (C : Fx) (ge : Option (List Kd)) (F : Hp) (ρ : Env) (σ : L2.St) (H : Hp) : Prop := match ge with
  | none => RO C F ρ H
  | some Γ => RS C Γ F ρ σ H
def GeOk (ge : Option (List Kd)) (Γ : List Kd) : Prop := ge = none ∨ ge = some Γ
theorem RE.of {C : Fx} {ge : Option (List Kd)} {Γ : List Kd} {F H : Hp} {ρ : Env} {σ : L2.St} (r : RS C Γ F ρ σ H) (h : GeOk ge Γ) : RE C ge F ρ σ H := by
  rcases h with rfl | rfl
  · exact r.ro
  · exact r
/-- the surroundings of a piece of a body: what is fixed, the exceptions' kinds and wish, the kinds behind continue -/
structure Sg where
  C : Fx
  ge : Option (List Kd)
  W : WX
  gc : List Kd
  gb : List Kd
  ro : Bool
/-- what a result is: at the start's heap, the frozen part and the heap behind it -/
abbrev Rel (α γ : Type) := Hp → Hp → Hp → α → γ → Prop
def Rel.Late {α γ : Type} (R : Rel α γ) : Prop := ∀ (H H1 F' H' : Hp) (d : α) (v : γ), (∀ b, H b ≠ none → H1 b ≠ none) → R H1 F' H' d v → R H F' H' d v
/-- the reading of an expression by m: at F -/
def TrF {α γ : Type} (S : Sg) (Γ : List Kd) (R : Rel α γ) (m : M α) (F : Hp) : L2.St → Hp → (γ → Hp → Prop) → Prop := fun σ H Q => ∃ ρ, RS S.C Γ F ρ σ H ∧
  match m ρ with
  | .ok d ρ' => ∀ v F' H', RS S.C Γ F' ρ' σ H' → Ext (Own Γ σ) F H F' H' → R H F' H' d v → Q v H'
  | .er x ρ' => ∀ cl dx F' H', Same F F' → RE S.C S.ge F' ρ' σ H' → RX S.C.K S.C.ct F' H' x cl dx → S.W cl dx σ H'
  | .no => False
def Tr {α γ : Type} (S : Sg) (Γ : List Kd) (R : Rel α γ) (m : M α) : L2.St → Hp → (γ → Hp → Prop) → Prop := fun σ H Q => ∃ F, TrF S Γ R m F σ H Q
/-- frozen data; lists of them; truths -/
def rD (S : Sg) : Rel D V := fun _ F _ d v => Rp S.C.K S.C.ct F d v
/-- what may be read -/
def rR (S : Sg) : Rel D V := fun _ F H d v => Rv S.C.K S.C.ct F H d v
def rLR (S : Sg) : Rel (List D) (List V) := fun _ F H ds vs => RvL S.C.K S.C.ct F H ds vs
theorem rLR_late {S : Sg} : (rLR S).Late := fun _ _ _ _ _ _ _ h => h
def rL (S : Sg) : Rel (List D) (List V) := fun _ F _ ds vs => RpL S.C.K S.C.ct F ds vs
def rB : Rel Bool Bool := fun _ _ _ b c => b = c
/-- an object that is new and nobody's yet -/
def rO (S : Sg) : Rel D V := fun H F H' d v => ∃ a o, v = .ref a ∧ H a = none ∧ F a = none ∧ H' a = some o ∧ OwO S.C.K S.C.ct F d o
theorem rD_late {S : Sg} : (rD S).Late := fun _ _ _ _ _ _ _ h => h
theorem rL_late {S : Sg} : (rL S).Late := fun _ _ _ _ _ _ _ h => h
theorem rB_late : rB.Late := fun _ _ _ _ _ _ _ h => h
theorem rO_late {S : Sg} : (rO S).Late := fun H H1 F' H' d v k ⟨a, o, h1, h2, h3⟩ => ⟨a, o, h1, by
  cases e : H a with
  | none => rfl
  | some x => exact absurd h2 (k a (by rw [e]; simp)), h3⟩
section
variable {S : Sg} {Γ : List Kd} {α β γ δ : Type} {R : Rel α γ} {R1 : Rel β δ}
/-- THE BIND: first m, then f of what came -/
theorem TrF.bind {m : M β} {f : β → M α} {F : Hp} {σ : L2.St} {H : Hp} {Q : γ → Hp → Prop} (hR : R.Late) (h : TrF S Γ R (m.bind f) F σ H Q) :
    TrF S Γ R1 m F σ H fun v H1 => ∃ d F1, R1 H F1 H1 d v ∧ Ext (Own Γ σ) F H F1 H1 ∧ TrF S Γ R (f d) F1 σ H1 Q := by
  obtain ⟨ρ, r, h⟩ := h
  refine ⟨ρ, r, ?_⟩
  unfold M.bind at h
  cases e : m ρ with
  | no => rw [e] at h; exact h.elim
  | er x ρ' => rw [e] at h; exact h
  | ok d ρ' =>
    rw [e] at h
    intro v F1 H1 r1 x1 q1
    refine ⟨d, F1, q1, x1, ρ', r1, ?_⟩
    have h' : (match f d ρ' with
      | .ok d ρ'' => ∀ v F' H', RS S.C Γ F' ρ'' σ H' → Ext (Own Γ σ) F H F' H' → R H F' H' d v → Q v H'
      | .er x ρ'' => ∀ cl dx F' H', Same F F' → RE S.C S.ge F' ρ'' σ H' → RX S.C.K S.C.ct F' H' x cl dx → S.W cl dx σ H'
      | .no => False) := h
    cases e2 : f d ρ' with
    | no => rw [e2] at h'; exact h'.elim
    | er x ρ'' => rw [e2] at h'; exact fun cl dx F2 H2 sm re rx => h' cl dx F2 H2 (x1.f.trans sm) re rx
    | ok d2 ρ'' =>
      rw [e2] at h'
      exact fun v2 F2 H2 r2 x2 q2 => h' v2 F2 H2 r2 (x1.trans x2) (hR _ _ _ _ _ _ x1.n q2)
theorem Tr.bind {m : M β} {f : β → M α} {σ : L2.St} {H : Hp} {Q : γ → Hp → Prop} (hR : R.Late) (h : Tr S Γ R (m.bind f) σ H Q) :
    Tr S Γ R1 m σ H fun v H1 => ∃ d F1, R1 H F1 H1 d v ∧ TrF S Γ R (f d) F1 σ H1 Q := by
  obtain ⟨F, h⟩ := h
  obtain ⟨ρ, r, h⟩ := h.bind (R1 := R1) hR
  refine ⟨F, ρ, r, ?_⟩
  cases e : m ρ with
  | no => rw [e] at h; exact h.elim
  | er x ρ' => rw [e] at h; exact h
  | ok d ρ' =>
    rw [e] at h
    intro v F1 H1 r1 x1 q1
    obtain ⟨d', F', a1, _, a2⟩ := h v F1 H1 r1 x1 q1
    exact ⟨d', F', a1, a2⟩
/-- .. and R1 is kept through what follows: for two operands -/
theorem TrF.ret {a : α} {F : Hp} {σ : L2.St} {H : Hp} {Q : γ → Hp → Prop} (h : TrF S Γ R (M.ret a) F σ H Q) : ∃ ρ, RS S.C Γ F ρ σ H ∧ ∀ v F' H', RS S.C Γ F' ρ σ H' → Ext (Own Γ σ) F H F' H' → R H F' H' a v → Q v H' := h
theorem TrF.opt {o : Option α} {F : Hp} {σ : L2.St} {H : Hp} {Q : γ → Hp → Prop} (h : TrF S Γ R (M.opt o) F σ H Q) : ∃ a ρ, o = some a ∧ RS S.C Γ F ρ σ H ∧ ∀ v F' H', RS S.C Γ F' ρ σ H' → Ext (Own Γ σ) F H F' H' → R H F' H' a v → Q v H' := by
  obtain ⟨ρ, r, h⟩ := h
  cases o with
  | none => exact h.elim
  | some a => exact ⟨a, ρ, rfl, r, h⟩
/-- a result that lies where it is, nothing changed -/
theorem TrF.opt0 {o : Option α} {F : Hp} {σ : L2.St} {H : Hp} {Q : γ → Hp → Prop} (h : TrF S Γ R (M.opt o) F σ H Q) : ∃ a, o = some a ∧ Same F H ∧ ∀ v, R H F H a v → Q v H := by
  obtain ⟨a, ρ, e, r, h⟩ := h.opt
  exact ⟨a, e, r.sub, fun v q => h v F H r Ext.refl q⟩
/-- a result that is a new frozen object -/
theorem TrF.opt1 {o : Option α} {F : Hp} {σ : L2.St} {H : Hp} {Q : γ → Hp → Prop} (h : TrF S Γ R (M.opt o) F σ H Q) : ∃ a, o = some a ∧ Same F H ∧ ∀ v p ob, H p = none → R H (upd F p ob) (upd H p ob) a v → Q v (upd H p ob) := by
  obtain ⟨a, ρ, e, r, h⟩ := h.opt
  exact ⟨a, e, r.sub, fun v p ob hp q => h v _ _ (r.newF hp) (Ext.newF r.sub hp) q⟩
/-- a result that is a new object of one's own -/
theorem TrF.opt2 {o : Option α} {F : Hp} {σ : L2.St} {H : Hp} {Q : γ → Hp → Prop} (h : TrF S Γ R (M.opt o) F σ H Q) : ∃ a, o = some a ∧ Same F H ∧ ∀ v p ob, H p = none → R H F (upd H p ob) a v → Q v (upd H p ob) := by
  obtain ⟨a, ρ, e, r, h⟩ := h.opt
  exact ⟨a, e, r.sub, fun v p ob hp q => h v _ _ (r.newH hp) (Ext.newH hp) q⟩
end
/-! ### the judgements -/
section
variable (X : Cx) (S : Sg) (Γ : List Kd)
def EvE (e : Expr) (m : M D) : Prop := PE X e (Tr S Γ (rD S) m)
def EvR (e : Expr) (m : M D) : Prop := PE X e (Tr S Γ (rR S) m)
def EvAR (es : List Expr) (m : M (List D)) : Prop := PA X es (Tr S Γ (rLR S) m)
def EvO (e : Expr) (m : M D) : Prop := PE X e (Tr S Γ (rO S) m)
def EvT (e : Expr) (m : M Bool) : Prop := PT X e (Tr S Γ rB m)
def EvA (es : List Expr) (m : M (List D)) : Prop := PA X es (Tr S Γ (rL S) m)
end
theorem pe_imp {X : Cx} {e : Expr} {t t' : TE} (h : PE X e t) (k : ∀ σ H Q, t' σ H Q → t σ H Q) : PE X e t' := ⟨fun pins s σ H Q I q => h.run pins s σ H Q I (k _ _ _ q)⟩
theorem pt_imp {X : Cx} {e : Expr} {t t' : TT} (h : PT X e t) (k : ∀ σ H Q, t' σ H Q → t σ H Q) : PT X e t' := ⟨fun pins s σ H Q I q => h.run pins s σ H Q I (k _ _ _ q)⟩
theorem pa_imp {X : Cx} {e : List Expr} {t t' : TA} (h : PA X e t) (k : ∀ σ H Q, t' σ H Q → t σ H Q) : PA X e t' := ⟨fun pos pins s σ H Q I q => h.run pos pins s σ H Q I (k _ _ _ q)⟩
theorem ps_imp {X : Cx} {e : Stmt} {t t' : TS} (h : PS X e t) (k : ∀ D σ H, t' D σ H → t D σ H) : PS X e t' := ⟨fun pins s σ H D I q => h.run pins s σ H D I (k _ _ _ q)⟩
theorem pss_imp {X : Cx} {e : List Stmt} {t t' : TS} (h : PSs X e t) (k : ∀ D σ H, t' D σ H → t D σ H) : PSs X e t' := ⟨fun pins s σ H D I q => h.run pins s σ H D I (k _ _ _ q)⟩
/-- Q weakened -/
theorem TrF.mono {S : Sg} {Γ : List Kd} {α γ : Type} {R : Rel α γ} {m : M α} {F : Hp} {σ : L2.St} {H : Hp} {Q Q' : γ → Hp → Prop} (h : TrF S Γ R m F σ H Q) (k : ∀ v H', Q v H' → Q' v H') : TrF S Γ R m F σ H Q' := by
  obtain ⟨ρ, r, h⟩ := h
  refine ⟨ρ, r, ?_⟩
  cases e : m ρ with
  | no => rw [e] at h; exact h.elim
  | er x ρ' => rw [e] at h; exact h
  | ok d ρ' =>
    rw [e] at h
    exact fun v F1 H1 r1 x1 q1 => k _ _ (h v F1 H1 r1 x1 q1)
theorem Tr.mono {S : Sg} {Γ : List Kd} {α γ : Type} {R : Rel α γ} {m : M α} {σ : L2.St} {H : Hp} {Q Q' : γ → Hp → Prop} (h : Tr S Γ R m σ H Q) (k : ∀ v H', Q v H' → Q' v H') : Tr S Γ R m σ H Q' := by
  obtain ⟨F, h⟩ := h
  exact ⟨F, h.mono k⟩
end G
/-! G1: expressions. -/
namespace G
open PySem PySem.Spec PyProof.Rows L2
/-! ### names and constants -/
section
variable {X : Cx} {S : Sg} {Γ : List Kd}
def mC (d : D) : M D := M.ret d
/-- slot i -/
def mV (i : Nat) : M D := fun ρ => match ρ[i]? with
  | some (some d) => .ok d ρ
  | _ => .no
theorem e_c {d : D} {v : V} {e : Expr} (h : PE X e (tC v)) (r : ∀ F, Rp S.C.K S.C.ct F d v) : EvE X S Γ e (mC d) := pe_imp h fun σ H Q ⟨F, ρ, q, k⟩ => k v F H q Ext.refl (r F)
theorem e_int {i : Int} {j pos} : EvE X S Γ (.Constant (.int i) j pos) (mC (.int i)) := e_c pe_int fun _ => rp_int.mpr rfl
theorem e_bl {b : Bool} {j pos} : EvE X S Γ (.Constant (.bool b) j pos) (mC (.bl b)) := e_c pe_bl fun _ => rp_bl.mpr rfl
theorem e_non {j pos} : EvE X S Γ (.Constant .none j pos) (mC .non) := e_c pe_non fun _ => rp_non.mpr rfl
theorem e_str {x : Str} {j pos} : EvE X S Γ (.Constant (.str x) j pos) (mC (.str x)) := e_c pe_str fun _ => rp_str.mpr rfl
/-- a slot with frozen data -/
theorem e_v {i : Nat} {e : Expr} (h : PE X e (tVar i)) (hk : Γ[i]? = some .fz := by rfl) : EvE X S Γ e (mV i) := pe_imp h fun σ H Q ⟨F, ρ, q, k⟩ => by
  unfold mV at k
  cases e1 : ρ[i]? with
  | none => rw [e1] at k; exact k.elim
  | some x =>
    rw [e1] at k
    cases x with
    | none => exact k.elim
    | some d =>
      obtain ⟨u, h1, h2⟩ := q.fz i d hk e1
      exact ⟨u, h1, k u F H q Ext.refl h2⟩
/-! ### what a value does: two operands, one -/
/-- the heap behind an operation: as it was, or with one new object -/
inductive Gw (F H : Hp) : Hp → Hp → Prop
  | same : Gw F H F H
  | new {p : Addr} {o : HO} : H p = none → Gw F H (upd F p o) (upd H p o)
theorem TrF.optG {α γ : Type} {R : Rel α γ} {o : Option α} {F : Hp} {σ : L2.St} {H : Hp} {Q : γ → Hp → Prop} (h : TrF S Γ R (M.opt o) F σ H Q) : ∃ a, o = some a ∧ Same F H ∧ ∀ v F' H', Gw F H F' H' → R H F' H' a v → Q v H' := by
  obtain ⟨a, ρ, e, r, h⟩ := h.opt
  refine ⟨a, e, r.sub, fun v F' H' g q => ?_⟩
  cases g with
  | same => exact h v _ _ r Ext.refl q
  | new hp => exact h v _ _ (r.newF hp) (Ext.newF r.sub hp) q
def Op2 (K : Frag) (ct : Ct) (r : R2) (f : D → D → Option D) : Prop := ∀ (F H : Hp) (a b d : D) (v w : V) (Q : VK), Same F H → Rv K ct F H a v → Rv K ct F H b w → f a b = some d → (∀ u F' H', Gw F H F' H' → Rp K ct F' d u → Q u H') → r v w H Q
def m2 (f : D → D → Option D) (a b : M D) : M D := a.bind fun x => b.bind fun y => M.opt (f x y)
def m1 (f : D → Option D) (a : M D) : M D := a.bind fun x => M.opt (f x)
theorem tr_two {ma mb : M D} {f : D → D → Option D} {r : R2} (hr : Op2 S.C.K S.C.ct r f) {σ : L2.St} {H : Hp} {Q : VK} (h : Tr S Γ (rD S) (m2 f ma mb) σ H Q) : tOp r (Tr S Γ (rD S) ma) (Tr S Γ (rR S) mb) σ H Q := by
  refine (Tr.bind (R1 := rD S) rD_late h).mono fun v H1 ⟨d, F1, q, h⟩ => ⟨F1, (TrF.bind (R1 := rR S) rD_late h).mono fun w H2 ⟨e, F2, q2, x2, h⟩ => ?_⟩
  obtain ⟨z, e1, hs, k⟩ := h.optG
  exact hr F2 H2 d e z v w Q hs (.of hs (Rp.mono x2.f q)) q2 e1 k
/-- a slot's value, whoever owns it -/
theorem RS.rv {C : Fx} {Γ : List Kd} {F H : Hp} {ρ : Env} {σ : L2.St} (r : RS C Γ F ρ σ H) {i : Nat} {d : D} (e : ρ[i]? = some (some d)) : ∃ u, σ[i]? = some (some u) ∧ Rv C.K C.ct F H d u := by
  have hi : i < Γ.length := by rw [r.lg, ← r.ln]; exact (List.getElem?_eq_some_iff.mp e).1
  have hk : Γ[i]? = some Γ[i] := List.getElem?_eq_getElem hi
  by_cases z : Γ[i] = .fz
  · rw [z] at hk
    obtain ⟨u, h1, h2⟩ := r.fz i d hk e
    exact ⟨u, h1, .of r.sub h2⟩
  · obtain ⟨a, o, h1, h2, h3, h4, _⟩ := r.ow i d _ hk z e
    exact ⟨.ref a, h1, .own h3 h4⟩
theorem r_v {i : Nat} {e : Expr} (h : PE X e (tVar i)) : EvR X S Γ e (mV i) := pe_imp h fun σ H Q ⟨F, ρ, q, k⟩ => by
  unfold mV at k
  cases e1 : ρ[i]? with
  | none => rw [e1] at k; exact k.elim
  | some x =>
    rw [e1] at k
    cases x with
    | none => exact k.elim
    | some d =>
      obtain ⟨u, h1, h2⟩ := RS.rv q e1
      exact ⟨u, h1, k u F H q Ext.refl h2⟩
theorem TrF.rv {m : M D} {F : Hp} {σ : L2.St} {H : Hp} {Q : VK} (h : TrF S Γ (rR S) m F σ H Q) : TrF S Γ (rD S) m F σ H Q := by
  obtain ⟨ρ, rs, h⟩ := h
  refine ⟨ρ, rs, ?_⟩
  cases e : m ρ with
  | no => rw [e] at h; exact h
  | er x ρ' => rw [e] at h; exact h
  | ok d ρ' =>
    rw [e] at h
    exact fun v F1 H1 r1 x1 q => h v F1 H1 r1 x1 (.of r1.sub q)
theorem e_r {e : Expr} {m : M D} (h : EvE X S Γ e m) : EvR X S Γ e m := pe_imp h fun σ H Q ⟨F, q⟩ => ⟨F, q.rv⟩
/-- the left operand a slot that is read late -/
def m2L (f : D → D → Option D) (i : Nat) (b : M D) : M D := (mV i).bind fun _ => b.bind fun y => (mV i).bind fun x => M.opt (f x y)
theorem TrF.slot {α γ : Type} {R : Rel α γ} {i : Nat} {k : D → M α} {F : Hp} {σ : L2.St} {H : Hp} {Q : γ → Hp → Prop} (h : TrF S Γ R ((mV i).bind k) F σ H Q) : ∃ d u, σ[i]? = some (some u) ∧ Rv S.C.K S.C.ct F H d u ∧ TrF S Γ R (k d) F σ H Q := by
  obtain ⟨ρ, rs, h⟩ := h
  unfold M.bind mV at h
  cases e : ρ[i]? with
  | none => rw [e] at h; exact h.elim
  | some x =>
    rw [e] at h
    cases x with
    | none => exact h.elim
    | some d =>
      obtain ⟨u, h1, h2⟩ := RS.rv rs e
      exact ⟨d, u, h1, h2, ρ, rs, h⟩
theorem tr_twoL {i : Nat} {mb : M D} {f : D → D → Option D} {r : R2} (hr : Op2 S.C.K S.C.ct r f) {σ : L2.St} {H : Hp} {Q : VK} (h : Tr S Γ (rD S) (m2L f i mb) σ H Q) : tOp r (tVar i) (Tr S Γ (rR S) mb) σ H Q := by
  obtain ⟨F, h⟩ := h
  obtain ⟨_, v, hv, _, h⟩ := h.slot
  refine ⟨v, hv, F, (TrF.bind (R1 := rR S) rD_late h).mono fun w H2 ⟨e, F2, q2, x2, h⟩ => ?_⟩
  obtain ⟨d, u, hu, hr2, h⟩ := h.slot
  rw [hv] at hu
  cases hu
  obtain ⟨z, e1, hs, k⟩ := h.optG
  exact hr F2 H2 d e z v w Q hs hr2 q2 e1 k
theorem e_op {op : Operator} {a b : Expr} {ma mb : M D} {f : D → D → Option D} {r : R2} {pos : Pos} (ho : OpR X (binaryOp op) r) (hr : Op2 S.C.K S.C.ct r f) (ha : EvE X S Γ a ma) (hb : EvR X S Γ b mb) : EvE X S Γ (.BinOp a op b pos) (m2 f ma mb) := pe_imp (pe_op ho ha hb) fun _ _ _ => tr_two hr
theorem opR_or {f : Value → Value → Sem Value} {r r' : R2} (h : OpR X f r) (h' : OpR X f r') : OpR X f (fun x y H Q => r x y H Q ∨ r' x y H Q) := fun pins s σ H x y v u Q I rx ry q =>
  q.elim (fun z => h pins s σ H x y v u Q I rx ry z) fun z => h' pins s σ H x y v u Q I rx ry z
instance (i j : Int) : Decidable (CMul i j) := by unfold CMul; exact inferInstance
instance (i j : Int) : Decidable (CDivN i j) := by unfold CDivN; exact inferInstance
instance (i j : Int) : Decidable (CPow i j) := by unfold CPow; exact inferInstance
def dAdd : D → D → Option D
  | .int i, .int j => some (.int (i + j))
  | .str x, .str y => if x.length + y.length ≤ sizeLine then some (.str (x ++ y)) else none
  | .lst x, .lst y => if x.length + y.length ≤ sizeLine then some (.lst (x ++ y)) else none
  | .tup x, .tup y => if x.length + y.length ≤ sizeLine then some (.tup (x ++ y)) else none
  | _, _ => none
def rAdd (K : Frag) : R2 := fun x y H Q => (rI0 (fun i j => .int (i + j)) x y H Q ∨ (∃ i j, x = .str i ∧ y = .str j ∧ i.length + j.length ≤ sizeLine ∧ Q (.str (i ++ j)) H)) ∨ (rCat x y H Q ∨ rCatP K x y H Q)
theorem op_addAny : OpR X (binaryOp .Add) (rAdd X.K) := opR_or (opR_or op_add op_add_str) (opR_or op_cat op_catP)
theorem op2_add {K : Frag} {ct : Ct} : Op2 K ct (rAdd K) dAdd := by
  intro F H a b d v w Q hs ra rb e q
  cases a <;> cases b <;> simp only [dAdd] at e <;> try (cases e; done)
  · rw [rv_int] at ra rb
    cases e
    subst ra rb
    exact .inl (.inl ⟨_, _, rfl, rfl, q _ _ _ .same (rp_int.mpr rfl)⟩)
  · rw [rv_str] at ra rb
    split at e
    · rename_i hz
      cases e
      subst ra rb
      exact .inl (.inr ⟨_, _, rfl, rfl, hz, q _ _ _ .same (rp_str.mpr rfl)⟩)
    · cases e
  · rw [rv_tup] at ra rb
    split at e
    · rename_i hz
      cases e
      obtain ⟨p, vs, rfl, h1, h2⟩ := ra
      obtain ⟨p', vs', rfl, h1', h2'⟩ := rb
      refine .inr (.inr ⟨p, p', vs, vs', rfl, rfl, same_t hs h1, same_t hs h1', by rw [← h2.length, ← h2'.length]; exact hz, ?_⟩)
      refine ⟨fun e0 => ?_, fun e0 e1 => ?_, fun e0 e1 l ob hl hd => ?_⟩
      · subst e0
        have : RpL K ct F _ [] := h2
        have e2 := h2.length
        simp at e2
        subst e2
        exact q _ _ _ .same (rp_tup.mpr ⟨p', vs', rfl, h1', by simpa using h2'⟩)
      · subst e1
        have e2 := h2'.length
        simp at e2
        subst e2
        exact q _ _ _ .same (rp_tup.mpr ⟨p, vs, rfl, h1, by simpa using h2⟩)
      · have hf : F l = none := hs.free hl
        exact q _ _ _ (.new (o := mkT ob (vs ++ vs')) hl) (rp_tup.mpr ⟨l, _, rfl, SqP.of upd_same hd, (h2.append h2').mono (same_updF hf)⟩)
    · cases e
  · rw [rv_lst] at ra rb
    split at e
    · rename_i hz
      cases e
      obtain ⟨p, vs, rfl, h1, h2⟩ := ra
      obtain ⟨p', vs', rfl, h1', h2'⟩ := rb
      refine .inr (.inl ⟨p, p', vs, vs', rfl, rfl, h1, h1', by rw [← h2.length, ← h2'.length]; exact hz, fun l hl => ?_⟩)
      have hf : F l = none := hs.free hl
      exact q _ _ _ (.new (o := .lst (vs ++ vs')) hl) (rp_lst.mpr ⟨l, _, rfl, upd_same, (h2.append h2').mono (same_updF hf)⟩)
    · cases e
end
end G
namespace G
open PySem PySem.Spec PyProof.Rows L2
/-! ### whole numbers -/
section
variable {X : Cx} {S : Sg} {Γ : List Kd} {K : Frag} {ct : Ct}
/-- two whole numbers, under C -/
def dInt (C : Int → Int → Prop) [∀ i j, Decidable (C i j)] (g : Int → Int → Int) : D → D → Option D
  | .int i, .int j => if C i j then some (.int (g i j)) else none
  | _, _ => none
theorem op2_int {C : Int → Int → Prop} [∀ i j, Decidable (C i j)] {g : Int → Int → Int} : Op2 K ct (rI C fun i j => .int (g i j)) (dInt C g) := by
  intro F H a b d v w Q hs ra rb e q
  cases a <;> cases b <;> simp only [dInt] at e <;> try (cases e; done)
  rw [rv_int] at ra rb
  split at e
  · rename_i hc
    cases e
    exact ⟨_, _, ra, rb, hc, q _ _ _ .same (rp_int.mpr rfl)⟩
  · cases e
def CTrue : Int → Int → Prop := fun _ _ => True
instance (i j : Int) : Decidable (CTrue i j) := isTrue trivial
instance (i j : Int) : Decidable ((fun (_ j : Int) => j ≠ 0) i j) := by show Decidable (j ≠ 0); exact inferInstance
instance (i j : Int) : Decidable ((fun (_ j : Int) => 0 ≤ j) i j) := by show Decidable (0 ≤ j); exact inferInstance
theorem op_subT : OpR X (binaryOp .Sub) (rI CTrue fun i j => .int (i - j)) := fun pins s σ H x y v u Q I rx ry h => by
  obtain ⟨i, j, e1, e2, _, q⟩ := h
  exact op_sub pins s σ H x y v u Q I rx ry ⟨i, j, e1, e2, q⟩
abbrev dSub : D → D → Option D := dInt CTrue fun i j => i - j
abbrev dFd : D → D → Option D := dInt CDivN fun i j => i.fdiv j
abbrev dMd : D → D → Option D := dInt (fun _ j => j ≠ 0) fun i j => i.fmod j
abbrev dPw : D → D → Option D := dInt CPow fun i j => i ^ j.toNat
def dMul : D → D → Option D
  | .int i, .int j => if CMul i j then some (.int (i * j)) else none
  | .lst x, .int k => if -(2 ^ 63) ≤ k ∧ k < 2 ^ 63 ∧ x.length * k.toNat ≤ sizeLine then some (.lst (List.replicate k.toNat x).flatten) else none
  | _, _ => none
theorem rpl_rep {F : Hp} {ds : List D} {vs : List V} (h : RpL K ct F ds vs) : ∀ n : Nat, RpL K ct F (List.replicate n ds).flatten (List.replicate n vs).flatten
  | 0 => rpl_nil.mpr rfl
  | n + 1 => by
    rw [List.replicate_succ, List.replicate_succ, List.flatten_cons, List.flatten_cons]
    exact h.append (rpl_rep h n)
theorem op2_mul : Op2 K ct (fun x y H Q => rI CMul (fun i j => .int (i * j)) x y H Q ∨ rRep x y H Q) dMul := by
  intro F H a b d v w Q hs ra rb e q
  cases a <;> cases b <;> simp only [dMul] at e <;> try (cases e; done)
  · rw [rv_int] at ra rb
    split at e
    · rename_i hc
      cases e
      exact .inl ⟨_, _, ra, rb, hc, q _ _ _ .same (rp_int.mpr rfl)⟩
    · cases e
  · rw [rv_int] at rb
    rw [rv_lst] at ra
    split at e
    · rename_i hc
      cases e
      obtain ⟨p, vs, rfl, h1, h2⟩ := ra
      refine .inr ⟨p, _, vs, rfl, rb, h1, hc.1, hc.2.1, by rw [← h2.length]; exact hc.2.2, fun l hl => ?_⟩
      exact q _ _ _ (.new (o := .lst (List.replicate _ vs).flatten) hl) (rp_lst.mpr ⟨l, _, rfl, upd_same, (rpl_rep h2 _).mono (same_updF (hs.free hl))⟩)
    · cases e
theorem e_add {a b : Expr} {ma mb : M D} {pos : Pos} (ha : EvE X S Γ a ma) (hb : EvR X S Γ b mb) (hK : S.C.K = X.K := by rfl) : EvE X S Γ (.BinOp a .Add b pos) (m2 dAdd ma mb) := e_op op_addAny (by rw [← hK]; exact op2_add) ha hb
theorem e_sub {a b : Expr} {ma mb : M D} {pos : Pos} (ha : EvE X S Γ a ma) (hb : EvR X S Γ b mb) : EvE X S Γ (.BinOp a .Sub b pos) (m2 dSub ma mb) := e_op op_subT op2_int ha hb
theorem e_mul {a b : Expr} {ma mb : M D} {pos : Pos} (ha : EvE X S Γ a ma) (hb : EvR X S Γ b mb) : EvE X S Γ (.BinOp a .Mult b pos) (m2 dMul ma mb) := e_op (opR_or op_mul op_rep) op2_mul ha hb
theorem e_fd {a b : Expr} {ma mb : M D} {pos : Pos} (ha : EvE X S Γ a ma) (hb : EvR X S Γ b mb) : EvE X S Γ (.BinOp a .FloorDiv b pos) (m2 dFd ma mb) := e_op op_fdivN op2_int ha hb
theorem e_md {a b : Expr} {ma mb : M D} {pos : Pos} (ha : EvE X S Γ a ma) (hb : EvR X S Γ b mb) : EvE X S Γ (.BinOp a .Mod b pos) (m2 dMd ma mb) := e_op op_modN op2_int ha hb
theorem e_pw {a b : Expr} {ma mb : M D} {pos : Pos} (ha : EvE X S Γ a ma) (hb : EvR X S Γ b mb) : EvE X S Γ (.BinOp a .Pow b pos) (m2 dPw ma mb) := e_op op_pow op2_int ha hb
def dNeg : D → Option D
  | .int i => some (.int (-i))
  | _ => none
theorem e_neg {a : Expr} {ma : M D} {pos : Pos} (ha : EvE X S Γ a ma) : EvE X S Γ (.UnaryOp .USub a pos) (m1 dNeg ma) := pe_imp (pe_un un_neg ha) fun σ H Q h => by
  refine (Tr.bind (R1 := rD S) rD_late h).mono fun v H1 ⟨d, F1, q, h⟩ => ?_
  obtain ⟨z, e1, hs, k⟩ := h.optG
  cases d <;> simp only [dNeg] at e1 <;> try (cases e1; done)
  cases e1
  exact ⟨_, rp_int.mp q, k _ _ _ .same (rp_int.mpr rfl)⟩
/-! ### data as the library has them -/
mutual
def toPy : D → Option PyData
  | .non => some .none
  | .bl b => some (.bool b)
  | .int i => some (.int i)
  | .str x => some (.str x)
  | .tup xs => (toPyL xs).map .tuple
  | .lst xs => (toPyL xs).map .list
  | .scr ns => some (.list (ns.map .int))
  | .dct _ _ => none
  | .obj _ _ => none
  | .exc _ _ => none
  | .dti _ _ => none
def toPyL : List D → Option (List PyData)
  | [] => some []
  | d :: ds => match toPy d, toPyL ds with
    | some p, some ps => some (p :: ps)
    | _, _ => none
end
theorem dpAll_ints {H : Hp} : ∀ ns : List Int, DpAll K H (ns.map V.int) (ns.map .int)
  | [] => .nil
  | n :: ns => .cons (.int n) (dpAll_ints ns)
mutual
theorem rp_dp {F H : Hp} (hs : Same F H) : ∀ {d : D} {v : V} {p : PyData}, Rp K ct F d v → toPy d = some p → Dp K H v p
  | .non, v, p, h, e => by simp only [toPy] at e; cases e; rw [rp_non] at h; subst h; exact .non
  | .bl b, v, p, h, e => by simp only [toPy] at e; cases e; rw [rp_bl] at h; subst h; exact .bl b
  | .int i, v, p, h, e => by simp only [toPy] at e; cases e; rw [rp_int] at h; subst h; exact .int i
  | .str x, v, p, h, e => by simp only [toPy] at e; cases e; rw [rp_str] at h; subst h; exact .str x
  | .tup xs, v, p, h, e => by
    simp only [toPy] at e
    rw [rp_tup] at h
    obtain ⟨a, vs, rfl, h1, h2⟩ := h
    obtain ⟨ps, e1, e2⟩ := Option.map_eq_some_iff.mp e
    subst e2
    exact .tup (same_t hs h1) (rpl_dp hs h2 e1)
  | .lst xs, v, p, h, e => by
    simp only [toPy] at e
    rw [rp_lst] at h
    obtain ⟨a, vs, rfl, h1, h2⟩ := h
    obtain ⟨ps, e1, e2⟩ := Option.map_eq_some_iff.mp e
    subst e2
    exact .lst (SqL.of (hs _ _ h1)) (rpl_dp hs h2 e1)
  | .scr ns, v, p, h, e => by
    simp only [toPy] at e; cases e
    rw [rp_scr] at h
    obtain ⟨a, rfl, h1⟩ := h
    exact .lst (same_l hs h1) (dpAll_ints ns)
  | .dct _ _, _, _, _, e => by simp only [toPy] at e; cases e
  | .obj _ _, _, _, _, e => by simp only [toPy] at e; cases e
  | .exc _ _, _, _, _, e => by simp only [toPy] at e; cases e
  | .dti _ _, _, _, _, e => by simp only [toPy] at e; cases e
theorem rpl_dp {F H : Hp} (hs : Same F H) : ∀ {ds : List D} {vs : List V} {ps : List PyData}, RpL K ct F ds vs → toPyL ds = some ps → DpAll K H vs ps
  | [], vs, ps, h, e => by simp only [toPyL] at e; cases e; rw [rpl_nil] at h; subst h; exact .nil
  | d :: ds, vs, ps, h, e => by
    rw [rpl_cons] at h
    obtain ⟨v, r, rfl, h1, h2⟩ := h
    simp only [toPyL] at e
    split at e
    · rename_i p ps' e1 e2
      cases e
      exact .cons (rp_dp hs h1 e1) (rpl_dp hs h2 e2)
    · cases e
end
theorem rv_dp {F H : Hp} (hs : Same F H) {d : D} {v : V} {p : PyData} (r : Rv K ct F H d v) (e : toPy d = some p) : Dp K H v p := by
  cases d with
  | lst xs =>
    rw [rv_lst] at r
    obtain ⟨a, vs, rfl, h1, h2⟩ := r
    simp only [toPy] at e
    obtain ⟨ps, e1, e2⟩ := Option.map_eq_some_iff.mp e
    subst e2
    exact .lst (SqL.of h1) (rpl_dp hs h2 e1)
  | dct _ _ => simp only [toPy] at e; cases e
  | non => exact rp_dp hs r e
  | bl _ => exact rp_dp hs r e
  | int _ => exact rp_dp hs r e
  | str _ => exact rp_dp hs r e
  | tup _ => exact rp_dp hs r e
  | scr _ => exact rp_dp hs r e
  | obj _ _ => simp only [toPy] at e; cases e
  | exc _ _ => simp only [toPy] at e; cases e
  | dti _ _ => simp only [toPy] at e; cases e
mutual
theorem toPy_plain : ∀ {d : D} {p : PyData}, toPy d = some p → PyData.plain p = true
  | .non, p, e | .bl _, p, e | .int _, p, e | .str _, p, e => by simp only [toPy] at e; cases e; simp [PyData.plain]
  | .tup xs, p, e => by
    simp only [toPy] at e
    obtain ⟨ps, e1, e2⟩ := Option.map_eq_some_iff.mp e
    subst e2
    simp [PyData.plain, toPyL_plain e1]
  | .lst xs, p, e => by
    simp only [toPy] at e
    obtain ⟨ps, e1, e2⟩ := Option.map_eq_some_iff.mp e
    subst e2
    simp [PyData.plain, toPyL_plain e1]
  | .scr ns, p, e => by
    simp only [toPy] at e; cases e
    have : ∀ ns : List Int, PyData.plainAll (ns.map .int) = true := fun ns => by
      induction ns with
      | nil => simp [PyData.plainAll]
      | cons n ns ih => simp [PyData.plainAll, PyData.plain, ih]
    simp [PyData.plain, this]
  | .dct _ _, _, e => by simp only [toPy] at e; cases e
  | .obj _ _, _, e => by simp only [toPy] at e; cases e
  | .exc _ _, _, e => by simp only [toPy] at e; cases e
  | .dti _ _, _, e => by simp only [toPy] at e; cases e
theorem toPyL_plain : ∀ {ds : List D} {ps : List PyData}, toPyL ds = some ps → PyData.plainAll ps = true
  | [], ps, e => by simp only [toPyL] at e; cases e; simp [PyData.plainAll]
  | d :: ds, ps, e => by
    simp only [toPyL] at e
    split at e
    · rename_i p ps' e1 e2
      cases e
      simp [PyData.plainAll, toPy_plain e1, toPyL_plain e2]
    · cases e
end
/-- two data under a rule of the library -/
def rDat (K : Frag) (g : PyData → PyData → Option Bool) : R2 := fun x y H Q => ∃ p q k, Dp K H x p ∧ Dp K H y q ∧ p.plain = true ∧ q.plain = true ∧ g p q = some k ∧ Q (.bl k) H
def dDat (g : PyData → PyData → Option Bool) (a b : D) : Option D := match toPy a, toPy b with
  | some p, some q => (g p q).map D.bl
  | _, _ => none
theorem op2_dat {g : PyData → PyData → Option Bool} : Op2 K ct (rDat K g) (dDat g) := by
  intro F H a b d v w Q hs ra rb e q
  unfold dDat at e
  split at e
  · rename_i p p' e1 e2
    obtain ⟨k, e3, e4⟩ := Option.map_eq_some_iff.mp e
    subst e4
    exact ⟨p, p', k, rv_dp hs ra e1, rv_dp hs rb e2, toPy_plain e1, toPy_plain e2, e3, q _ _ _ .same (rp_bl.mpr rfl)⟩
  · cases e
theorem opR_dat {f : Value → Value → Sem Value} {g : PyData → PyData → Option Bool}
    (rule : ∀ (s : Shared) (a b : Value) (p q : PyData) (as bs : List Addr) (k : Bool) (Q : Value → Shared → Prop), Reads s.heap a p as → Reads s.heap b q bs → p.plain = true → q.plain = true → g p q = some k → Q (.bool k) s → wpAny (model X.prog X.w) X.A (f a b) Q X.xe s) :
    OpR X f (rDat X.K g) := by
  intro pins s σ H x y v u Q I rx ry h
  obtain ⟨p, q, k, h1, h2, h3, h4, h5, h6⟩ := h
  obtain ⟨as, r1⟩ := Dp.reads I p x v h1 rx
  obtain ⟨bs, r2⟩ := Dp.reads I q y u h2 ry
  exact rule s v u p q as bs k _ r1 r2 h3 h4 h5 ⟨.bl k, H, I, rfl, h6⟩
def lowD (p q : PyData) : Bool := decide (min p.depth q.depth ≤ 60)
def isNn : PyData → Bool
  | .none => true
  | _ => false
def gEq (neg : Bool) (p q : PyData) : Option Bool := if lowD p q = true then some (if neg = true then !PyData.eqv p q else PyData.eqv p q) else none
def gCmp (r : PyData → PyData → Bool) (p q : PyData) : Option Bool := if lowD p q = true ∧ PySem.W.alike p q = true ∧ isNn p = false then some (r p q) else none
theorem low_room {p q : PyData} {A : Around} (h : lowD p q = true) (hu : A.units + 64 < cLine) : A.units + min p.depth q.depth < cLine := by
  have := of_decide_eq_true h
  omega
theorem isNn_ne {p : PyData} (h : isNn p = false) : p ≠ .none := fun e => by subst e; cases h
section
variable (hu : X.A.units + 64 < cLine)
include hu
theorem op_eqP : OpR X (compareOp .Eq) (rDat X.K (gEq false)) := opR_dat fun s a b p q as bs k Q r1 r2 h1 h2 e hq => by
  unfold gEq at e
  split at e
  · rename_i hl
    cases e
    exact PySem.SeqAt.eq_plain r1 r2 h1 h2 (low_room hl hu) hq
  · cases e
theorem op_neP : OpR X (compareOp .NotEq) (rDat X.K (gEq true)) := opR_dat fun s a b p q as bs k Q r1 r2 h1 h2 e hq => by
  unfold gEq at e
  split at e
  · rename_i hl
    cases e
    exact PySem.SeqAt.ne_plain r1 r2 h1 h2 (low_room hl hu) hq
  · cases e
theorem op_ltP : OpR X (compareOp .Lt) (rDat X.K (gCmp fun p q => PySem.W.dataLt p q)) := opR_dat fun s a b p q as bs k Q r1 r2 h1 h2 e hq => by
  unfold gCmp at e
  split at e
  · rename_i hl
    cases e
    exact PySem.W.lt_data r1 r2 hl.2.1 (isNn_ne hl.2.2) (low_room hl.1 hu) hq
  · cases e
theorem op_gtP : OpR X (compareOp .Gt) (rDat X.K (gCmp fun p q => PySem.W.dataLt q p)) := opR_dat fun s a b p q as bs k Q r1 r2 h1 h2 e hq => by
  unfold gCmp at e
  split at e
  · rename_i hl
    cases e
    exact PySem.W.gt_data r1 r2 hl.2.1 (isNn_ne hl.2.2) (low_room hl.1 hu) hq
  · cases e
theorem op_leP : OpR X (compareOp .LtE) (rDat X.K (gCmp fun p q => !PySem.W.dataLt q p)) := opR_dat fun s a b p q as bs k Q r1 r2 h1 h2 e hq => by
  unfold gCmp at e
  split at e
  · rename_i hl
    cases e
    exact PySem.W.le_data r1 r2 hl.2.1 (isNn_ne hl.2.2) (low_room hl.1 hu) hq
  · cases e
theorem op_geP : OpR X (compareOp .GtE) (rDat X.K (gCmp fun p q => !PySem.W.dataLt p q)) := opR_dat fun s a b p q as bs k Q r1 r2 h1 h2 e hq => by
  unfold gCmp at e
  split at e
  · rename_i hl
    cases e
    exact PySem.W.ge_data r1 r2 hl.2.1 (isNn_ne hl.2.2) (low_room hl.1 hu) hq
  · cases e
end
/-- x in a list, a tuple -/
def gIn (neg : Bool) (p q : PyData) : Option Bool := match q with
  | .list ys => if min (PyData.depthAll ys) p.depth ≤ 60 then some (if neg = true then !ys.any fun y => PyData.eqv y p else ys.any fun y => PyData.eqv y p) else none
  | .tuple ys => if min (PyData.depthAll ys) p.depth ≤ 60 then some (if neg = true then !ys.any fun y => PyData.eqv y p else ys.any fun y => PyData.eqv y p) else none
  | _ => none
theorem op_inP (hu : X.A.units + 64 < cLine) : OpR X (compareOp .In) (rDat X.K (gIn false)) := opR_dat fun s a b p q as bs k Q r1 r2 h1 h2 e hq => by
  cases q <;> simp only [gIn] at e <;> try (cases e; done)
  · split at e
    · cases e
      exact PySem.SeqAt.in_list_data r2 r1 (by simpa [PyData.plain] using h2) h1 (by omega) hq
    · cases e
  · split at e
    · cases e
      exact PySem.SeqAt.in_tuple_data r2 r1 (by simpa [PyData.plain] using h2) h1 (by omega) hq
    · cases e
theorem op_ninP (hu : X.A.units + 64 < cLine) : OpR X (compareOp .NotIn) (rDat X.K (gIn true)) := opR_dat fun s a b p q as bs k Q r1 r2 h1 h2 e hq => by
  cases q <;> simp only [gIn] at e <;> try (cases e; done)
  · split at e
    · cases e
      exact PySem.SeqAt.notIn_list_data r2 r1 (by simpa [PyData.plain] using h2) h1 (by omega) hq
    · cases e
  · split at e
    · cases e
      exact PySem.SeqAt.notIn_tuple_data r2 r1 (by simpa [PyData.plain] using h2) h1 (by omega) hq
    · cases e
/-- one sign in a text -/
def dSg (neg : Bool) (a b : D) : Option D := match a, b with
  | .str x, .str y => match x.cps.toList with
      | [c] => some (.bl (if neg = true then !decide (c ∈ y.cps.toList) else decide (c ∈ y.cps.toList)))
      | _ => none
  | _, _ => none
theorem str_one {x : Str} {c : Nat} (h : x.cps.toList = [c]) : x = ⟨#[c]⟩ := by
  obtain ⟨cps⟩ := x
  have h : cps.toList = [c] := h
  have e : cps = #[c] := by rw [← Array.toArray_toList (xs := cps), h]
  rw [e]
theorem op2_sg : Op2 K ct (fun x y H Q => ∃ (c : Nat) (z : Str), x = .str ⟨#[c]⟩ ∧ y = .str z ∧ Q (.bl (decide (c ∈ z.cps.toList))) H) (dSg false) := by
  intro F H a b d v w Q hs ra rb e q
  cases a <;> cases b <;> simp only [dSg] at e <;> try (cases e; done)
  rw [rv_str] at ra rb
  split at e
  · rename_i c hc
    cases e
    exact ⟨c, _, by rw [ra, str_one hc], rb, q _ _ _ .same (rp_bl.mpr (by simp))⟩
  · cases e
theorem op2_nsg : Op2 K ct (fun x y H Q => ∃ (c : Nat) (z : Str), x = .str ⟨#[c]⟩ ∧ y = .str z ∧ Q (.bl (!decide (c ∈ z.cps.toList))) H) (dSg true) := by
  intro F H a b d v w Q hs ra rb e q
  cases a <;> cases b <;> simp only [dSg] at e <;> try (cases e; done)
  rw [rv_str] at ra rb
  split at e
  · rename_i c hc
    cases e
    exact ⟨c, _, by rw [ra, str_one hc], rb, q _ _ _ .same (rp_bl.mpr (by simp))⟩
  · cases e
/-- two rules, the first that serves -/
def dOr2 (f g : D → D → Option D) (a b : D) : Option D := match f a b with
  | some d => some d
  | none => g a b
theorem op2_or {r r' : R2} {f g : D → D → Option D} (h : Op2 K ct r f) (h' : Op2 K ct r' g) : Op2 K ct (fun x y H Q => r x y H Q ∨ r' x y H Q) (dOr2 f g) := by
  intro F H a b d v w Q hs ra rb e q
  unfold dOr2 at e
  split at e
  · rename_i d' e1
    cases e
    exact .inl (h F H a b _ v w Q hs ra rb e1 q)
  · exact .inr (h' F H a b _ v w Q hs ra rb e q)
def isN : D → Bool
  | .non => true
  | _ => false
def dIsN (neg : Bool) (a b : D) : Option D := match b with
  | .non => some (.bl (if neg = true then !isN a else isN a))
  | .bl k => match a with
    | .bl j => some (.bl (if neg = true then !decide (j = k) else decide (j = k)))
    | _ => none
  | _ => none
theorem isN_dec {F H : Hp} {a : D} {v : V} (r : Rv K ct F H a v) : decide (v = .non) = isN a := by
  cases a with
  | non => rw [rv_non] at r; subst r; rfl
  | bl b => rw [rv_bl] at r; subst r; rfl
  | int b => rw [rv_int] at r; subst r; rfl
  | str b => rw [rv_str] at r; subst r; rfl
  | tup b => rw [rv_tup] at r; obtain ⟨_, _, rfl, _⟩ := r; rfl
  | lst b => rw [rv_lst] at r; obtain ⟨_, _, rfl, _⟩ := r; rfl
  | scr b => rw [rv_scr] at r; obtain ⟨_, rfl, _⟩ := r; rfl
  | dct k b => rw [rv_dct] at r; obtain ⟨_, _, rfl, _⟩ := r; rfl
  | obj k b => rw [rv_obj] at r; obtain ⟨_, _, rfl, _⟩ := r; rfl
  | exc k b => obtain ⟨_, _, rfl, _⟩ := rp_exc.mp r; rfl
  | dti k b => rw [rv_dti] at r; obtain ⟨_, _, rfl, _⟩ := r; rfl
theorem op2_isN : Op2 K ct (fun x y H Q => (y = .non ∧ Q (.bl (decide (x = .non))) H) ∨ rIsB x y H Q) (dIsN false) := by
  intro F H a b d v w Q hs ra rb e q
  cases b <;> simp only [dIsN] at e <;> try (cases e; done)
  · cases e
    rw [rv_non] at rb
    exact .inl ⟨rb, q _ _ _ .same (rp_bl.mpr (by rw [isN_dec ra]; simp))⟩
  · cases a <;> simp only [dIsN] at e <;> try (cases e; done)
    cases e
    rw [rv_bl] at ra rb
    exact .inr ⟨_, _, ra, rb, q _ _ _ .same (rp_bl.mpr (by simp))⟩
theorem op2_notN : Op2 K ct (fun x y H Q => (y = .non ∧ Q (.bl (!decide (x = .non))) H) ∨ rNotB x y H Q) (dIsN true) := by
  intro F H a b d v w Q hs ra rb e q
  cases b <;> simp only [dIsN] at e <;> try (cases e; done)
  · cases e
    rw [rv_non] at rb
    exact .inl ⟨rb, q _ _ _ .same (rp_bl.mpr (by rw [isN_dec ra]; simp))⟩
  · cases a <;> simp only [dIsN] at e <;> try (cases e; done)
    cases e
    rw [rv_bl] at ra rb
    exact .inr ⟨_, _, ra, rb, q _ _ _ .same (rp_bl.mpr (by simp))⟩
abbrev dEq : D → D → Option D := dDat (gEq false)
abbrev dNe : D → D → Option D := dDat (gEq true)
abbrev dLt : D → D → Option D := dDat (gCmp fun p q => PySem.W.dataLt p q)
abbrev dGt : D → D → Option D := dDat (gCmp fun p q => PySem.W.dataLt q p)
abbrev dLe : D → D → Option D := dDat (gCmp fun p q => !PySem.W.dataLt q p)
abbrev dGe : D → D → Option D := dDat (gCmp fun p q => !PySem.W.dataLt p q)
abbrev dIn : D → D → Option D := dOr2 (dSg false) (dDat (gIn false))
abbrev dNin : D → D → Option D := dOr2 (dSg true) (dDat (gIn true))
/-- a comparison's rule as one thing: op, reading, function -/
structure Cmp (X : Cx) (K : Frag) (ct : Ct) (op : CmpOp) (f : D → D → Option D) : Prop where
  ex : ∃ r, OpR X (compareOp op) r ∧ Op2 K ct r f
section
variable (hu : X.A.units + 64 < cLine) (hK : K = X.K)
include hu hK
theorem c_eq : Cmp X K ct .Eq dEq := ⟨_, op_eqP hu, by rw [← hK]; exact op2_dat⟩
theorem c_ne : Cmp X K ct .NotEq dNe := ⟨_, op_neP hu, by rw [← hK]; exact op2_dat⟩
theorem c_lt : Cmp X K ct .Lt dLt := ⟨_, op_ltP hu, by rw [← hK]; exact op2_dat⟩
theorem c_gt : Cmp X K ct .Gt dGt := ⟨_, op_gtP hu, by rw [← hK]; exact op2_dat⟩
theorem c_le : Cmp X K ct .LtE dLe := ⟨_, op_leP hu, by rw [← hK]; exact op2_dat⟩
theorem c_ge : Cmp X K ct .GtE dGe := ⟨_, op_geP hu, by rw [← hK]; exact op2_dat⟩
theorem c_in : Cmp X K ct .In dIn := ⟨_, opR_or op_in_sign (op_inP hu), by rw [← hK]; exact op2_or op2_sg op2_dat⟩
theorem c_nin : Cmp X K ct .NotIn dNin := ⟨_, opR_or op_notIn_sign (op_ninP hu), by rw [← hK]; exact op2_or op2_nsg op2_dat⟩
theorem c_is : Cmp X K ct .Is (dIsN false) := ⟨_, opR_or op_isN op_isBl, op2_isN⟩
theorem c_isnot : Cmp X K ct .IsNot (dIsN true) := ⟨_, opR_or op_notN op_notBl, op2_notN⟩
end
theorem e_cmpL {op : CmpOp} {a b : Expr} {i : Nat} {mb : M D} {f : D → D → Option D} {pos : Pos} (c : Cmp X S.C.K S.C.ct op f) (ha : PE X a (tVar i)) (hb : EvR X S Γ b mb) (hm : behindInMarks op b = false := by first | exact nomark _ | rfl) : EvE X S Γ (.Compare a [op] [b] pos) (m2L f i mb) := by
  obtain ⟨r, ho, hr⟩ := c.ex
  exact pe_imp (pe_cmpR ho ha hb hm) fun _ _ _ => tr_twoL hr
theorem e_cmp {op : CmpOp} {a b : Expr} {ma mb : M D} {f : D → D → Option D} {pos : Pos} (c : Cmp X S.C.K S.C.ct op f) (ha : EvE X S Γ a ma) (hb : EvR X S Γ b mb) (hm : behindInMarks op b = false := by first | exact nomark _ | rfl) : EvE X S Γ (.Compare a [op] [b] pos) (m2 f ma mb) := by
  obtain ⟨r, ho, hr⟩ := c.ex
  exact pe_imp (pe_cmpR ho ha hb hm) fun _ _ _ => tr_two hr
end
end G
/-! G2: tests, and or not, arguments, displays, subscripts, slices. -/
namespace G
open PySem PySem.Spec PyProof.Rows L2
section
variable {X : Cx} {S : Sg} {Γ : List Kd}
/-! ### tests -/
def dTru : D → Option Bool
  | .non => some false
  | .bl b => some b
  | .int i => some (i != 0)
  | .str x => if x.length ≤ sizeLine then some ((x.length : Int) != 0) else none
  | .tup xs => some (!xs.isEmpty)
  | .lst xs => some (!xs.isEmpty)
  | .scr xs => some (!xs.isEmpty)
  | _ => none
theorem rpl_empty {K : Frag} {ct : Ct} {F : Hp} {ds : List D} {vs : List V} (h : RpL K ct F ds vs) : vs.isEmpty = ds.isEmpty := by
  have := h.length
  cases ds <;> cases vs <;> simp_all
theorem tru_of {K : Frag} {ct : Ct} {F H : Hp} {d : D} {v : V} {b : Bool} (hs : Same F H) (r : Rv K ct F H d v) (e : dTru d = some b) : TruV K v H b := by
  cases d <;> simp only [dTru] at e <;> try (cases e; done)
  · cases e; rw [rv_non] at r; subst r; rfl
  · cases e; rw [rv_bl] at r; subst r; rfl
  · cases e; rw [rv_int] at r; subst r; rfl
  · rw [rv_str] at r; subst r
    split at e
    · rename_i hz
      cases e
      exact ⟨hz, rfl⟩
    · cases e
  · cases e; rw [rv_tup] at r; obtain ⟨a, vs, rfl, h1, h2⟩ := r
    exact .inr (.inl ⟨vs, same_t hs h1, by rw [rpl_empty h2]⟩)
  · cases e; rw [rv_lst] at r; obtain ⟨a, vs, rfl, h1, h2⟩ := r
    exact .inl ⟨vs, SqL.of h1, by rw [rpl_empty h2]⟩
  · cases e; rw [rv_scr] at r; obtain ⟨a, rfl, h1⟩ := r
    exact .inl ⟨_, same_l hs h1, by simp⟩
def mT (m : M D) : M Bool := m.bind fun d => M.opt (dTru d)
/-- the truth of an expression's value -/
theorem t_tru {e : Expr} {m : M D} (h : EvR X S Γ e m) (hK : S.C.K = X.K) (he : ∀ whole, isTrue e X.env whole = (do let v ← whole; standAt e.pos; holding [v] (truthy v)) := by intro _; rfl) : EvT X S Γ e (mT m) := by
  refine pt_imp (pt_truth h he) fun σ H Q q => ?_
  refine (Tr.bind (R1 := rR S) rB_late q).mono fun v H1 ⟨d, F1, r, q⟩ => ?_
  obtain ⟨b, e1, hs, k⟩ := q.opt0
  exact ⟨b, by rw [← hK]; exact tru_of hs r e1, k b rfl⟩
def dBl : D → Option Bool
  | .bl b => some b
  | _ => none
/-- a truth itself, as a test -/
def mB (m : M D) : M Bool := m.bind fun d => M.opt (dBl d)
theorem tr_bl {m : M D} {σ : L2.St} {H : Hp} {Q : Bool → Hp → Prop} (q : Tr S Γ rB (mB m) σ H Q) : Tr S Γ (rD S) m σ H fun x H' => ∃ k, x = .bl k ∧ Q k H' := by
  refine (Tr.bind (R1 := rD S) rB_late q).mono fun v H1 ⟨d, F1, r, q⟩ => ?_
  obtain ⟨b, e1, hs, k⟩ := q.opt0
  cases d <;> simp only [dBl] at e1 <;> try (cases e1; done)
  cases e1
  exact ⟨_, rp_bl.mp r, k _ rfl⟩
/-- a comparison as a test -/
theorem t_cmp {op : CmpOp} {a b : Expr} {ma mb : M D} {f : D → D → Option D} {pos : Pos} (c : Cmp X S.C.K S.C.ct op f) (ha : EvE X S Γ a ma) (hb : EvR X S Γ b mb) (hm : behindInMarks op b = false := by first | exact nomark _ | rfl) : EvT X S Γ (.Compare a [op] [b] pos) (mB (m2 f ma mb)) := by
  obtain ⟨r, ho, hr⟩ := c.ex
  exact pt_imp (pt_cmpR ho ha hb hm) fun σ H Q q => tr_two hr (tr_bl q)
theorem t_cmpL {op : CmpOp} {a b : Expr} {i : Nat} {mb : M D} {f : D → D → Option D} {pos : Pos} (c : Cmp X S.C.K S.C.ct op f) (ha : PE X a (tVar i)) (hb : EvR X S Γ b mb) (hm : behindInMarks op b = false := by first | exact nomark _ | rfl) : EvT X S Γ (.Compare a [op] [b] pos) (mB (m2L f i mb)) := by
  obtain ⟨r, ho, hr⟩ := c.ex
  exact pt_imp (pt_cmpR ho ha hb hm) fun σ H Q q => tr_twoL hr (tr_bl q)
/-- a < b < c -/
def mCh (f g : D → D → Option D) (a b c : M D) : M D := a.bind fun x => b.bind fun y => (M.opt (f x y)).bind fun d => match d with
  | .bl k => if k = true then c.bind fun z => M.opt (g y z) else M.ret (.bl false)
  | _ => M.opt none
theorem M.bind_some {α β : Type} {a : α} {k : α → M β} : (M.opt (some a)).bind k = k a := rfl
theorem M.bind_none {α β : Type} {k : α → M β} : (M.opt none).bind k = M.opt none := rfl
theorem TrF.nope {α γ : Type} {R : Rel α γ} {F : Hp} {σ : L2.St} {H : Hp} {Q : γ → Hp → Prop} (h : TrF S Γ R (M.opt none) F σ H Q) : False := by
  obtain ⟨a, _, e, _⟩ := h.opt
  cases e
theorem tr_chain {ma mb mc : M D} {f g : D → D → Option D} {r r' : R2} (hr : Op2 S.C.K S.C.ct r f) (hr' : Op2 S.C.K S.C.ct r' g) {σ : L2.St} {H : Hp} {Q : VK} (h : Tr S Γ (rD S) (mCh f g ma mb mc) σ H Q) :
    tChain r r' (Tr S Γ (rD S) ma) (Tr S Γ (rD S) mb) (Tr S Γ (rR S) mc) σ H Q := by
  refine (Tr.bind (R1 := rD S) rD_late h).mono fun v H1 ⟨d, F1, q, h⟩ => ⟨F1, (TrF.bind (R1 := rD S) rD_late h).mono fun w H2 ⟨e, F2, q2, x2, h⟩ => ?_⟩
  cases e1 : f d e with
  | none => rw [e1, M.bind_none] at h; exact h.nope.elim
  | some t =>
    rw [e1, M.bind_some] at h
    obtain ⟨ρ, rs, h0⟩ := id h
    refine hr F2 H2 d e t v w _ rs.sub (.of rs.sub (Rp.mono x2.f q)) (.of rs.sub q2) e1 fun u F3 H3 gw ru => ?_
    have rs3 : RS S.C Γ F3 ρ σ H3 ∧ Ext (Own Γ σ) F2 H2 F3 H3 := by
      cases gw with
      | same => exact ⟨rs, Ext.refl⟩
      | new hp => exact ⟨rs.newF hp, Ext.newF rs.sub hp⟩
    cases t with
    | bl b =>
      refine ⟨b, rp_bl.mp ru, ?_⟩
      cases b with
      | false =>
        replace h : TrF S Γ (rD S) (M.ret (.bl false)) F2 σ H2 Q := h
        obtain ⟨ρ2, _, h⟩ := h
        exact iteF (h0 _ _ _ rs3.1 rs3.2 (rp_bl.mpr rfl))
      | true =>
        replace h : TrF S Γ (rD S) (mc.bind fun z => M.opt (g e z)) F2 σ H2 Q := h
        clear h0
        refine iteT ⟨F3, ?_⟩
        have h' : TrF S Γ (rD S) (mc.bind fun z => M.opt (g e z)) F3 σ H3 Q := by
          obtain ⟨ρ, rs, h2⟩ := h
          have rs3 : RS S.C Γ F3 ρ σ H3 ∧ Ext (Own Γ σ) F2 H2 F3 H3 := by
            cases gw with
            | same => exact ⟨rs, Ext.refl⟩
            | new hp => exact ⟨rs.newF hp, Ext.newF rs.sub hp⟩
          refine ⟨ρ, rs3.1, ?_⟩
          cases e2 : (mc.bind fun z => M.opt (g e z)) ρ with
          | no => rw [e2] at h2; exact h2
          | er x ρ' => rw [e2] at h2; exact fun cl dx F' H' sm => h2 cl dx F' H' (rs3.2.f.trans sm)
          | ok d' ρ' =>
            rw [e2] at h2
            exact fun v' F' H' a1 a2 a3 => h2 v' F' H' a1 (rs3.2.trans a2) a3
        refine (TrF.bind (R1 := rR S) rD_late h').mono fun z H4 ⟨d4, F4, q4, x4, h⟩ => ?_
        obtain ⟨z', e4, hs, k⟩ := h.optG
        exact hr' F4 H4 e d4 z' w z Q hs (.of hs (Rp.mono (rs3.2.f.trans x4.f) q2)) q4 e4 k
    | _ => exact (TrF.nope h).elim
theorem e_chain {op op' : CmpOp} {a b c : Expr} {ma mb mc : M D} {f g : D → D → Option D} {pos : Pos} (h1 : Cmp X S.C.K S.C.ct op f) (h2 : Cmp X S.C.K S.C.ct op' g) (ha : EvE X S Γ a ma) (hb : EvE X S Γ b mb) (hc : EvR X S Γ c mc) (hm : lastMarks [op, op'] [b, c] = false := by with_unfolding_all rfl) :
    EvE X S Γ (.Compare a [op, op'] [b, c] pos) (mCh f g ma mb mc) := by
  obtain ⟨r, ho, hr⟩ := h1.ex
  obtain ⟨r', ho', hr'⟩ := h2.ex
  exact pe_imp (pe_chain ho ho' ha hb hc hm) fun σ H Q q => tr_chain hr hr' q
theorem t_chain {op op' : CmpOp} {a b c : Expr} {ma mb mc : M D} {f g : D → D → Option D} {pos : Pos} (h1 : Cmp X S.C.K S.C.ct op f) (h2 : Cmp X S.C.K S.C.ct op' g) (ha : EvE X S Γ a ma) (hb : EvE X S Γ b mb) (hc : EvR X S Γ c mc) (hm : lastMarks [op, op'] [b, c] = false := by with_unfolding_all rfl) :
    EvT X S Γ (.Compare a [op, op'] [b, c] pos) (mB (mCh f g ma mb mc)) := by
  obtain ⟨r, ho, hr⟩ := h1.ex
  obtain ⟨r', ho', hr'⟩ := h2.ex
  exact pt_imp (pt_chain ho ho' ha hb hc hm) fun σ H Q q => tr_chain hr hr' (tr_bl q)
/-! ### and, or, not -/
def mNot (m : M Bool) : M Bool := m.bind fun b => M.ret (!b)
def mAnd (a b : M Bool) : M Bool := a.bind fun c => if c = true then b else M.ret false
def mOr (a b : M Bool) : M Bool := a.bind fun c => if c = true then M.ret true else b
theorem TrF.ret0 {α γ : Type} {R : Rel α γ} {a : α} {F : Hp} {σ : L2.St} {H : Hp} {Q : γ → Hp → Prop} (h : TrF S Γ R (M.ret a) F σ H Q) {v : γ} (q : R H F H a v) : Q v H := by
  obtain ⟨ρ, rs, h⟩ := h
  exact h v F H rs Ext.refl q
theorem t_not {e : Expr} {m : M Bool} {pos : Pos} (h : EvT X S Γ e m) : EvT X S Γ (.UnaryOp .Not e pos) (mNot m) := pt_imp (pt_not h) fun σ H Q q => by
  refine (Tr.bind (R1 := rB) rB_late q).mono fun v H1 ⟨d, F1, r, q⟩ => ?_
  cases (show d = v from r)
  exact q.ret0 rfl
def EvW (X : Cx) (S : Sg) (Γ : List Kd) (e : Expr) (m : M Bool) : Prop := PW X e (Tr S Γ rB m)
theorem pw_imp {X : Cx} {e : Expr} {t t' : TT} (h : PW X e t) (k : ∀ σ H Q, t' σ H Q → t σ H Q) : PW X e t' := ⟨fun wh pins s σ H Q I q => h.run wh pins s σ H Q I (k _ _ _ q)⟩
theorem w_and1 {a : Expr} {m : M Bool} {pos : Pos} (h : EvT X S Γ a m) : EvW X S Γ (.BoolOp .And [a] pos) m := pw_and1 h
theorem w_or1 {a : Expr} {m : M Bool} {pos : Pos} (h : EvT X S Γ a m) : EvW X S Γ (.BoolOp .Or [a] pos) m := pw_or1 h
theorem w_and {a b : Expr} {rest : List Expr} {m n : M Bool} {pos : Pos} (h : EvT X S Γ a m) (h' : EvW X S Γ (.BoolOp .And (b :: rest) pos) n) : EvW X S Γ (.BoolOp .And (a :: b :: rest) pos) (mAnd m n) := pw_imp (pw_and h h') fun σ H Q q => by
  refine (Tr.bind (R1 := rB) rB_late q).mono fun v H1 ⟨d, F1, r, q⟩ => ?_
  cases (show d = v from r)
  cases v with
  | true => exact iteT ⟨F1, q⟩
  | false => exact iteF (q.ret0 rfl)
theorem w_or {a b : Expr} {rest : List Expr} {m n : M Bool} {pos : Pos} (h : EvT X S Γ a m) (h' : EvW X S Γ (.BoolOp .Or (b :: rest) pos) n) : EvW X S Γ (.BoolOp .Or (a :: b :: rest) pos) (mOr m n) := pw_imp (pw_or h h') fun σ H Q q => by
  refine (Tr.bind (R1 := rB) rB_late q).mono fun v H1 ⟨d, F1, r, q⟩ => ?_
  cases (show d = v from r)
  cases v with
  | true => exact iteT (q.ret0 rfl)
  | false => exact iteF ⟨F1, q⟩
theorem t_w {e : Expr} {m : M Bool} (h : EvW X S Γ e m) : EvT X S Γ e m := PW.pt h
/-- .. as values: truths, all but the last -/
def mAndV (a b : M D) : M D := a.bind fun d => match d with
  | .bl c => if c = true then b else M.ret (.bl false)
  | _ => M.opt none
def mOrV (a b : M D) : M D := a.bind fun d => match d with
  | .bl c => if c = true then M.ret (.bl true) else b
  | _ => M.opt none
def dNot : D → Option D
  | .bl b => some (.bl (!b))
  | _ => none
theorem e_one {op : BoolOp} {a : Expr} {m : M D} {pos : Pos} (h : EvE X S Γ a m) : EvE X S Γ (.BoolOp op [a] pos) m := pe_one h
theorem e_and {a b : Expr} {rest : List Expr} {m n : M D} {pos : Pos} (h : EvE X S Γ a m) (h' : EvE X S Γ (.BoolOp .And (b :: rest) pos) n) : EvE X S Γ (.BoolOp .And (a :: b :: rest) pos) (mAndV m n) := pe_imp (pe_and h h') fun σ H Q q => by
  refine (Tr.bind (R1 := rD S) rD_late q).mono fun v H1 ⟨d, F1, r, q⟩ => ?_
  cases d with
  | bl c =>
    refine ⟨c, rp_bl.mp r, ?_⟩
    cases c with
    | true => exact iteT ⟨F1, q⟩
    | false => exact iteF (q.ret0 (rp_bl.mpr rfl))
  | _ => exact q.nope.elim
theorem e_or {a b : Expr} {rest : List Expr} {m n : M D} {pos : Pos} (h : EvE X S Γ a m) (h' : EvE X S Γ (.BoolOp .Or (b :: rest) pos) n) : EvE X S Γ (.BoolOp .Or (a :: b :: rest) pos) (mOrV m n) := pe_imp (pe_or h h') fun σ H Q q => by
  refine (Tr.bind (R1 := rD S) rD_late q).mono fun v H1 ⟨d, F1, r, q⟩ => ?_
  cases d with
  | bl c =>
    refine ⟨c, rp_bl.mp r, ?_⟩
    cases c with
    | true => exact iteT (q.ret0 (rp_bl.mpr rfl))
    | false => exact iteF ⟨F1, q⟩
  | _ => exact q.nope.elim
theorem e_not {a : Expr} {m : M D} {pos : Pos} (h : EvE X S Γ a m) : EvE X S Γ (.UnaryOp .Not a pos) (m1 dNot m) := pe_imp (pe_not h) fun σ H Q q => by
  refine (Tr.bind (R1 := rD S) rD_late q).mono fun v H1 ⟨d, F1, r, q⟩ => ?_
  obtain ⟨z, e1, hs, k⟩ := q.opt0
  cases d <;> simp only [dNot] at e1 <;> try (cases e1; done)
  cases e1
  exact ⟨_, rp_bl.mp r, k _ (rp_bl.mpr rfl)⟩
/-- a if c else b -/
def mIf (c : M Bool) (a b : M D) : M D := c.bind fun k => if k = true then a else b
theorem e_if {c a b : Expr} {mc : M Bool} {ma mb : M D} {pos : Pos} (hc : EvT X S Γ c mc) (ha : EvE X S Γ a ma) (hb : EvE X S Γ b mb) : EvE X S Γ (.IfExp c a b pos) (mIf mc ma mb) := pe_imp (pe_ifExp hc ha hb) fun σ H Q q => by
  refine (Tr.bind (R1 := rB) rD_late q).mono fun v H1 ⟨d, F1, r, q⟩ => ?_
  cases (show d = v from r)
  cases v with
  | true => exact iteT ⟨F1, q⟩
  | false => exact iteF ⟨F1, q⟩
/-! ### arguments, displays -/
def mNil : M (List D) := M.ret []
def mCons (a : M D) (r : M (List D)) : M (List D) := a.bind fun d => r.bind fun ds => M.ret (d :: ds)
theorem a_nil : EvA X S Γ [] mNil := pa_imp pa_nil fun σ H Q ⟨F, h⟩ => h.ret0 (rpl_nil.mpr rfl)
theorem a_cons {e : Expr} {es : List Expr} {m : M D} {n : M (List D)} (h : EvE X S Γ e m) (h' : EvA X S Γ es n) (hs : starEach (e :: es) X.env = (false, eval e X.env) :: starEach es X.env := by rfl) : EvA X S Γ (e :: es) (mCons m n) := pa_imp (pa_cons h h' hs) fun σ H Q q => by
  refine (Tr.bind (R1 := rD S) rL_late q).mono fun v H1 ⟨d, F1, r, q⟩ => ⟨F1, (TrF.bind (R1 := rL S) rL_late q).mono fun w H2 ⟨e, F2, q2, x2, h⟩ => ?_⟩
  exact h.ret0 (rpl_cons.mpr ⟨v, w, rfl, Rp.mono x2.f r, q2⟩)
/-- arguments that may be read, the last of them somebody's own -/
theorem a_oneR {e : Expr} {m : M D} (h : EvR X S Γ e m) (hs : starEach [e] X.env = (false, eval e X.env) :: starEach [] X.env := by rfl) : EvAR X S Γ [e] (mCons m mNil) := pa_imp (pa_cons h pa_nil hs) fun σ H Q q => by
  refine (Tr.bind (R1 := rR S) rLR_late q).mono fun v H1 ⟨d, F1, r, q⟩ => ?_
  exact TrF.ret0 (R := rLR S) (a := [d]) q ⟨v, [], rfl, r, rfl⟩
theorem a_consR {e : Expr} {es : List Expr} {m : M D} {n : M (List D)} (h : EvE X S Γ e m) (h' : EvAR X S Γ es n) (hs : starEach (e :: es) X.env = (false, eval e X.env) :: starEach es X.env := by rfl) : EvAR X S Γ (e :: es) (mCons m n) := pa_imp (pa_cons h h' hs) fun σ H Q q => by
  refine (Tr.bind (R1 := rD S) rLR_late q).mono fun v H1 ⟨d, F1, r, q⟩ => ⟨F1, (TrF.bind (R1 := rLR S) rLR_late q).mono fun w H2 ⟨e, F2, q2, x2, h⟩ => ?_⟩
  obtain ⟨ρ, rs, h'⟩ := id h
  exact h.ret0 ⟨v, w, rfl, .of rs.sub (Rp.mono x2.f r), q2⟩
/-- a new tuple, a new list of values at hand -/
def mTup (ms : M (List D)) : M D := ms.bind fun ds => M.opt (if ds.length ≤ sizeLine then some (.tup ds) else none)
def mLst (ms : M (List D)) : M D := ms.bind fun ds => M.opt (if ds.length ≤ sizeLine then some (.lst ds) else none)
theorem e_tup {es : List Expr} {ms : M (List D)} {x1 pos} (h : EvA X S Γ es ms) : EvE X S Γ (.Tuple es x1 pos) (mTup ms) := pe_imp (pe_tupP h) fun σ H Q q => by
  refine (Tr.bind (R1 := rL S) rD_late q).mono fun vs H1 ⟨ds, F1, r, q⟩ => ?_
  obtain ⟨z, e1, hs, k⟩ := q.opt1
  split at e1
  · rename_i hz
    cases e1
    have r : RpL S.C.K S.C.ct F1 ds vs := r
    refine ⟨by rw [← r.length]; exact hz, fun p ob hp hd => k _ p _ hp (rp_tup.mpr ⟨p, vs, rfl, SqP.of upd_same hd, r.mono (same_updF (hs.free hp))⟩)⟩
  · cases e1
theorem e_lst {es : List Expr} {ms : M (List D)} {pos} (h : EvA X S Γ es ms) : EvE X S Γ (.List es pos) (mLst ms) := pe_imp (pe_lst h) fun σ H Q q => by
  refine (Tr.bind (R1 := rL S) rD_late q).mono fun vs H1 ⟨ds, F1, r, q⟩ => ?_
  obtain ⟨z, e1, hs, k⟩ := q.opt1
  split at e1
  · rename_i hz
    cases e1
    have r : RpL S.C.K S.C.ct F1 ds vs := r
    refine ⟨by rw [← r.length]; exact hz, fun p hp => k _ p _ hp (rp_lst.mpr ⟨p, vs, rfl, upd_same, r.mono (same_updF (hs.free hp))⟩)⟩
  · cases e1
theorem o_lst {es : List Expr} {ms : M (List D)} {pos} (h : EvA X S Γ es ms) : EvO X S Γ (.List es pos) (mLst ms) := pe_imp (pe_lst h) fun σ H Q ⟨F, q⟩ => by
  refine ⟨F, (TrF.bind (R1 := rL S) rO_late q).mono fun vs H1 ⟨ds, F1, r, x1, q⟩ => ?_⟩
  obtain ⟨z, e1, hs, k⟩ := q.opt2
  split at e1
  · rename_i hz
    cases e1
    have r : RpL S.C.K S.C.ct F1 ds vs := r
    refine ⟨by rw [← r.length]; exact hz, fun p hp => k _ p _ hp ⟨p, _, rfl, hp, hs.free hp, upd_same, .lst r⟩⟩
  · cases e1
/-- an object of one's own, frozen at once -/
theorem TrF.frz {m : M D} {F : Hp} {σ : L2.St} {H : Hp} {Q : VK} (h : TrF S Γ (rD S) m F σ H Q) : TrF S Γ (rO S) m F σ H Q := by
  obtain ⟨ρ, rs, h⟩ := h
  refine ⟨ρ, rs, ?_⟩
  cases e : m ρ with
  | no => rw [e] at h; exact h
  | er x ρ' => rw [e] at h; exact h
  | ok d ρ' =>
    rw [e] at h
    rintro v F1 H1 r1 x1 ⟨a, o, rfl, h1, h2, h3, h4⟩
    have sm : Same F1 (upd F1 a o) := same_updF h2
    refine h (.ref a) (upd F1 a o) H1 ⟨same_frz r1.sub h3, ?_, r1.ln, r1.lg, r1.no, fun i d' k1 k2 => ?_, fun i d' k k1 k2 k3 => ?_, r1.dj, r1.hio⟩ ⟨x1.f.trans sm, fun b hb => ?_, x1.h, x1.n⟩ (h4.frz h2)
    · have z : S.C.H0 a = none := by
        cases e0 : S.C.H0 a with
        | none => rfl
        | some q => exact absurd h1 (rs.ext.n a (by rw [e0]; simp))
      exact r1.ext.frz z h2
    · obtain ⟨u, q1, q2⟩ := r1.fz i d' k1 k2
      exact ⟨u, q1, q2.mono sm⟩
    · obtain ⟨b, ob, q1, q2, q3, q4, q5, q6⟩ := r1.ow i d' k k1 k2 k3
      have nb : b ≠ a := fun zz => by
        have w := rs.own_some (c := b) ⟨i, by cases k with
          | fz => exact absurd rfl k2
          | ow => exact .inl k1
          | io => exact .inr k1, q1⟩
        obtain ⟨_, o', w⟩ := w
        rw [zz, h1] at w
        cases w
      exact ⟨b, ob, q1, by rw [upd_ne nb]; exact q2, q3, q4.mono sm, q5, q6⟩
    · by_cases z : b = a
      · subst z; exact .inr h1
      · rw [upd_ne z] at hb; exact x1.g b hb
theorem e_o {e : Expr} {m : M D} (h : EvO X S Γ e m) : EvE X S Γ e m := pe_imp h fun σ H Q ⟨F, q⟩ => ⟨F, q.frz⟩
end
end G
namespace G
open PySem PySem.Spec PyProof.Rows L2
section
variable {X : Cx} {S : Sg} {Γ : List Kd} {K : Frag} {ct : Ct}
/-! ### subscripts -/
def dIx : D → D → Option D
  | .lst xs, .int i => atI xs i
  | .tup xs, .int i => atI xs i
  | .scr ns, .int i => (atI ns i).map .int
  | .str x, .int i => if x.length ≤ sizeLine then (atI x.cps.toList i).map fun c => .str ⟨#[c]⟩ else none
  | _, _ => none
theorem rpl_at {F : Hp} {ds : List D} {vs : List V} {d : D} {i : Int} (h : RpL K ct F ds vs) (e : atI ds i = some d) : ∃ v, atI vs i = some v ∧ Rp K ct F d v := by
  unfold atI at e ⊢
  rw [← h.length]
  cases q : ixN ds.length i with
  | none => rw [q] at e; cases e
  | some j =>
    rw [q] at e
    exact h.get e
theorem atI_map {α β : Type} {xs : List α} {f : α → β} {i : Int} : atI (xs.map f) i = (atI xs i).map f := by
  unfold atI
  rw [List.length_map]
  cases ixN xs.length i with
  | none => rfl
  | some j => simp
theorem op2_ix : Op2 K ct (rIx K) dIx := by
  intro F H a b d v w Q hs ra rb e q
  cases b <;> cases a <;> simp only [dIx] at e <;> try (cases e; done)
  · rw [rv_int] at rb; rw [rv_str] at ra
    subst ra rb
    split at e
    · rename_i hz
      obtain ⟨c, e1, e2⟩ := Option.map_eq_some_iff.mp e
      subst e2
      exact .inr (.inr ⟨_, _, c, rfl, rfl, hz, e1, q _ _ _ .same (rp_str.mpr rfl)⟩)
    · cases e
  · rw [rv_int] at rb; rw [rv_tup] at ra
    subst rb
    obtain ⟨p, vs, rfl, h1, h2⟩ := ra
    obtain ⟨u, e1, e2⟩ := rpl_at h2 e
    exact .inr (.inl ⟨p, vs, _, u, rfl, rfl, same_t hs h1, e1, q _ _ _ .same e2⟩)
  · rw [rv_int] at rb; rw [rv_lst] at ra
    subst rb
    obtain ⟨p, vs, rfl, h1, h2⟩ := ra
    obtain ⟨u, e1, e2⟩ := rpl_at h2 e
    exact .inl ⟨p, vs, _, u, rfl, rfl, SqL.of h1, e1, q _ _ _ .same e2⟩
  · rw [rv_int] at rb; rw [rv_scr] at ra
    subst rb
    obtain ⟨p, rfl, h1⟩ := ra
    obtain ⟨n, e1, e2⟩ := Option.map_eq_some_iff.mp e
    subst e2
    exact .inl ⟨p, _, _, _, rfl, rfl, same_l hs h1, by rw [atI_map, e1]; rfl, q _ _ _ .same (rp_int.mpr rfl)⟩
theorem e_ix {a b : Expr} {ma mb : M D} {pos : Pos} (ha : EvE X S Γ a ma) (hb : EvE X S Γ b mb) (hK : S.C.K = X.K := by rfl) (hs : PlainIx b := by exact fun _ _ => rfl) : EvE X S Γ (.Subscript a b pos) (m2 dIx ma mb) :=
  pe_imp (pe_ix ix_seq ha (e_r hb) hs) fun _ _ _ => tr_two (by rw [← hK]; exact op2_ix)
theorem e_ixL {a b : Expr} {i : Nat} {mb : M D} {pos : Pos} (ha : PE X a (tVar i)) (hb : EvE X S Γ b mb) (hK : S.C.K = X.K := by rfl) (hs : PlainIx b := by exact fun _ _ => rfl) : EvE X S Γ (.Subscript a b pos) (m2L dIx i mb) :=
  pe_imp (pe_ix ix_seq ha (e_r hb) hs) fun _ _ _ => tr_twoL (by rw [← hK]; exact op2_ix)
/-! ### slices -/
def rP : Rel (Option Int) (Option Int) := fun _ _ _ a b => a = b
theorem rP_late : rP.Late := fun _ _ _ _ _ _ _ h => h
def EvP (X : Cx) (S : Sg) (Γ : List Kd) (lo : Option Expr) (m : M (Option Int)) : Prop := PO X lo (Tr S Γ rP m)
def dI : D → Option (Option Int)
  | .int i => some (some i)
  | _ => none
def mPt (m : M D) : M (Option Int) := m.bind fun d => M.opt (dI d)
theorem p_none : EvP X S Γ none (M.ret none) := ⟨fun pins s σ H Q I ⟨F, h⟩ => po_none.run pins s σ H Q I (h.ret0 rfl)⟩
theorem p_some {e : Expr} {m : M D} (h : EvE X S Γ e m) : EvP X S Γ (some e) (mPt m) := ⟨fun pins s σ H Q I q => (po_some h).run pins s σ H Q I (by
  refine (Tr.bind (R1 := rD S) rP_late q).mono fun v H1 ⟨d, F1, r, q⟩ => ?_
  obtain ⟨b, e1, hs, k⟩ := q.opt0
  cases d <;> simp only [dI] at e1 <;> try (cases e1; done)
  cases e1
  exact ⟨_, rp_int.mp r, k _ rfl⟩)⟩
/-- the part of a list -/
def cutL {α : Type} (xs : List α) (lo hi : Option Int) : List α := (xs.drop (HT.sIx xs.length 0 lo)).take (HT.sIx xs.length xs.length hi - HT.sIx xs.length 0 lo)
theorem cut_rpl {F : Hp} {ds : List D} {vs : List V} (h : RpL K ct F ds vs) (lo hi : Option Int) : RpL K ct F (cutL ds lo hi) (cutV vs lo hi) := by
  unfold cutL cutV
  rw [h.length]
  exact (h.drop _).take _
theorem cut_map {α β : Type} {xs : List α} {f : α → β} {lo hi : Option Int} : cutL (xs.map f) lo hi = (cutL xs lo hi).map f := by
  unfold cutL
  rw [List.length_map, List.map_take, List.map_drop]
def dSl (d : D) (lo hi : Option Int) : Option D := match d with
  | .lst xs => some (.lst (cutL xs lo hi))
  | .scr ns => some (.lst ((cutL ns lo hi).map .int))
  | .tup xs => some (.tup (cutL xs lo hi))
  | .str x => if x.length ≤ sizeLine then some (.str (cutS x lo hi)) else none
  | _ => none
def rSlX (K : Frag) : V → Option Int → Option Int → Hp → VK → Prop := fun x lo hi H Q => (rSlL K x lo hi H Q ∨ rSlP K x lo hi H Q) ∨ rSlS x lo hi H Q
theorem sl_x : SlR X (rSlX X.K) := (sl_list.or sl_tupP).or sl_str
theorem sl_ok {F H : Hp} {a d : D} {v : V} {lo hi : Option Int} {Q : VK} (hs : Same F H) (ra : Rv K ct F H a v) (e : dSl a lo hi = some d) (q : ∀ u F' H', Gw F H F' H' → Rp K ct F' d u → Q u H') : rSlX K v lo hi H Q := by
  cases a <;> simp only [dSl] at e <;> try (cases e; done)
  · rw [rv_str] at ra
    subst ra
    split at e
    · rename_i hz
      cases e
      exact .inr ⟨_, rfl, hz, q _ _ _ .same (rp_str.mpr rfl)⟩
    · cases e
  · rw [rv_tup] at ra
    cases e
    obtain ⟨p, vs, rfl, h1, h2⟩ := ra
    refine .inl (.inr ⟨p, vs, rfl, same_t hs h1, fun hw => ?_, fun _ l ob hl hd => ?_⟩)
    · refine q _ _ _ .same (rp_tup.mpr ⟨p, vs, rfl, h1, ?_⟩)
      rename_i xs
      have e2 : cutL xs lo hi = xs := by
        unfold cutL
        rw [h2.length, hw.1, hw.2, Nat.sub_zero, List.drop_zero, ← h2.length, List.take_length]
      rw [e2]
      exact h2
    · exact q _ _ _ (.new (o := mkT ob (cutV vs lo hi)) hl) (rp_tup.mpr ⟨l, _, rfl, SqP.of upd_same hd, (cut_rpl h2 lo hi).mono (same_updF (hs.free hl))⟩)
  · rw [rv_lst] at ra
    cases e
    obtain ⟨p, vs, rfl, h1, h2⟩ := ra
    exact .inl (.inl ⟨p, vs, rfl, SqL.of h1, fun l hl => q _ _ _ (.new (o := .lst (cutV vs lo hi)) hl) (rp_lst.mpr ⟨l, _, rfl, upd_same, (cut_rpl h2 lo hi).mono (same_updF (hs.free hl))⟩)⟩)
  · rw [rv_scr] at ra
    cases e
    obtain ⟨p, rfl, h1⟩ := ra
    refine .inl (.inl ⟨p, _, rfl, same_l hs h1, fun l hl => q _ _ _ (.new (o := .lst (cutV _ lo hi)) hl) (rp_lst.mpr ⟨l, _, rfl, upd_same, ?_⟩)⟩)
    rename_i ns
    have : cutV (List.map V.int ns) lo hi = (cutL ns lo hi).map V.int := cut_map (f := V.int)
    rw [this]
    exact rpl_ints
def mSl (a : M D) (lo hi : M (Option Int)) : M D := a.bind fun x => lo.bind fun l => hi.bind fun h => M.opt (dSl x l h)
theorem e_sl {e : Expr} {m : M D} {lo hi : Option Expr} {ml mh : M (Option Int)} {pos p2 : Pos} (he : EvE X S Γ e m) (hl : EvP X S Γ lo ml) (hh : EvP X S Γ hi mh) (hK : S.C.K = X.K := by rfl) : EvE X S Γ (.Subscript e (.Slice lo hi none p2) pos) (mSl m ml mh) :=
  pe_imp (pe_slice sl_x he hl hh) fun σ H Q q => by
    refine (Tr.bind (R1 := rD S) rD_late q).mono fun v H1 ⟨d, F1, r, q⟩ => ⟨F1, (TrF.bind (R1 := rP) rD_late q).mono fun l H2 ⟨l', F2, el, x2, q⟩ => ⟨F2, (TrF.bind (R1 := rP) rD_late q).mono fun h H3 ⟨h', F3, eh, x3, q⟩ => ?_⟩⟩
    cases (show l' = l from el)
    cases (show h' = h from eh)
    obtain ⟨z, e1, hs, k⟩ := q.optG
    rw [← hK]
    exact sl_ok hs (.of hs (Rp.mono (x2.f.trans x3.f) r)) e1 k
def mSlL (i : Nat) (lo hi : M (Option Int)) : M D := (mV i).bind fun _ => lo.bind fun l => hi.bind fun h => (mV i).bind fun x => M.opt (dSl x l h)
end
end G
namespace G
open PySem PySem.Spec PyProof.Rows L2
section
variable {X : Cx} {S : Sg} {Γ : List Kd} {K : Frag} {ct : Ct}
/-! ### built-in functions -/
def CallOk (K : Frag) (ct : Ct) (r : List V → Hp → VK → Prop) (f : List D → Option D) : Prop := ∀ (F H : Hp) (ds : List D) (d : D) (vs : List V) (Q : VK), Same F H → RvL K ct F H ds vs → f ds = some d → (∀ u F' H', Gw F H F' H' → Rp K ct F' d u → Q u H') → r vs H Q
theorem callR_or {f : Value} {r r' : List V → Hp → VK → Prop} (h : CallR X f r) (h' : CallR X f r') : CallR X f (fun vs H Q => r vs H Q ∨ r' vs H Q) := fun pins s σ H xs us Q I rx q =>
  q.elim (fun z => h pins s σ H xs us Q I rx z) fun z => h' pins s σ H xs us Q I rx z
/-- a built-in's rule as one thing -/
structure Bi (X : Cx) (K : Frag) (ct : Ct) (fv : Value) (f : List D → Option D) : Prop where
  ex : ∃ r, CallR X fv r ∧ CallOk K ct r f
def dOr1 (f g : List D → Option D) (ds : List D) : Option D := match f ds with
  | some d => some d
  | none => g ds
theorem Bi.or {fv : Value} {f g : List D → Option D} (h : Bi X K ct fv f) (h' : Bi X K ct fv g) : Bi X K ct fv (dOr1 f g) := by
  obtain ⟨r, h1, h2⟩ := h.ex
  obtain ⟨r', h1', h2'⟩ := h'.ex
  refine ⟨_, callR_or h1 h1', fun F H ds d vs Q hs rs e q => ?_⟩
  unfold dOr1 at e
  split at e
  · rename_i d' e1
    cases e
    exact .inl (h2 F H ds _ vs Q hs rs e1 q)
  · exact .inr (h2' F H ds d vs Q hs rs e q)
def mA (f : List D → Option D) (ms : M (List D)) : M D := ms.bind fun ds => M.opt (f ds)
theorem tr_call {f : List D → Option D} {r : List V → Hp → VK → Prop} {ms : M (List D)} (hr : CallOk S.C.K S.C.ct r f) {σ : L2.St} {H : Hp} {Q : VK} (q : Tr S Γ (rD S) (mA f ms) σ H Q) : tCB r (Tr S Γ (rLR S) ms) σ H Q := by
  refine (Tr.bind (R1 := rLR S) rD_late q).mono fun vs H1 ⟨ds, F1, r, q⟩ => ?_
  obtain ⟨z, e1, hs, k⟩ := q.optG
  exact hr F1 H1 ds z vs Q hs r e1 k
theorem e_cb {id : String} {x : Str} {p pos : Pos} {e : Expr} {es : List Expr} {ms : M (List D)} {f : List D → Option D} (b : Bi X S.C.K S.C.ct (.builtin id) f) (ha : EvAR X S Γ (e :: es) ms) (hm : X.mg x = none) (hv : bootBuiltins x = some (.builtin id) := by decide +kernel) (hg : Gl X x := by rfl) (hn : x ≠ "__name__" := by decide) (hdb : (x == ("__debug__" : Str)) = false := by decide)
    (he : starEach (e :: es) X.env = (false, eval e X.env) :: starEach es X.env := by rfl) (hpl : (backTo pos (starEach es X.env)).any (·.1) = false := by rfl) : EvE X S Γ (.Call (.Name x p) (e :: es) [] pos) (mA f ms) := by
  obtain ⟨r, h1, h2⟩ := b.ex
  exact pe_imp (pe_callB h1 hg hm hv ha hn hdb he hpl) fun _ _ _ => tr_call h2
theorem e_ct {T : String} {x : Str} {p pos : Pos} {e : Expr} {es : List Expr} {ms : M (List D)} {f : List D → Option D} (b : Bi X S.C.K S.C.ct (.type T) f) (ha : EvAR X S Γ (e :: es) ms) (hm : X.mg x = none) (hv : bootBuiltins x = some (.type T) := by decide +kernel) (hg : Gl X x := by rfl) (hn : x ≠ "__name__" := by decide) (hdb : (x == ("__debug__" : Str)) = false := by decide)
    (he : starEach (e :: es) X.env = (false, eval e X.env) :: starEach es X.env := by rfl) (hpl : (backTo pos (starEach es X.env)).any (·.1) = false := by rfl) : EvE X S Γ (.Call (.Name x p) (e :: es) [] pos) (mA f ms) := by
  obtain ⟨r, h1, h2⟩ := b.ex
  exact pe_imp (pe_callTy h1 hg hm hv ha hn hdb he hpl) fun _ _ _ => tr_call h2
theorem rvl_one {F H : Hp} {d : D} {vs : List V} (h : RvL K ct F H [d] vs) : ∃ v, vs = [v] ∧ Rv K ct F H d v := by
  obtain ⟨v, r, rfl, h1, h2⟩ := h
  cases (show r = [] from h2)
  exact ⟨v, rfl, h1⟩
theorem rvl_two {F H : Hp} {d e : D} {vs : List V} (h : RvL K ct F H [d, e] vs) : ∃ v w, vs = [v, w] ∧ Rv K ct F H d v ∧ Rv K ct F H e w := by
  obtain ⟨v, r, rfl, h1, h2⟩ := h
  obtain ⟨w, rfl, h3⟩ := rvl_one h2
  exact ⟨v, w, rfl, h1, h3⟩
/-- len -/
def dLen : List D → Option D
  | [.lst xs] => some (.int xs.length)
  | [.tup xs] => some (.int xs.length)
  | [.scr xs] => some (.int xs.length)
  | [.str x] => if x.length ≤ sizeLine then some (.int x.length) else none
  | _ => none
theorem b_len (hK : K = X.K) : Bi X K ct (.builtin "len") dLen := ⟨_, call_len, by
  subst hK
  intro F H ds d vs Q hs r e q
  unfold dLen at e
  split at e
  · replace r := rvl_one r
    obtain ⟨v, rfl, r⟩ := r
    rw [rv_lst] at r
    obtain ⟨a, vs, rfl, h1, h2⟩ := r
    cases e
    exact ⟨_, vs.length, rfl, .inl ⟨vs, SqL.of h1, rfl⟩, q _ _ _ .same (rp_int.mpr (by rw [h2.length]))⟩
  · replace r := rvl_one r
    obtain ⟨v, rfl, r⟩ := r
    rw [rv_tup] at r
    obtain ⟨a, vs, rfl, h1, h2⟩ := r
    cases e
    exact ⟨_, vs.length, rfl, .inr ⟨vs, same_t hs h1, rfl⟩, q _ _ _ .same (rp_int.mpr (by rw [h2.length]))⟩
  · replace r := rvl_one r
    obtain ⟨v, rfl, r⟩ := r
    rw [rv_scr] at r
    obtain ⟨a, rfl, h1⟩ := r
    cases e
    exact ⟨_, _, rfl, .inl ⟨_, same_l hs h1, rfl⟩, q _ _ _ .same (rp_int.mpr (by simp))⟩
  · replace r := rvl_one r
    obtain ⟨v, rfl, r⟩ := r
    rw [rv_str] at r
    subst r
    split at e
    · rename_i hz
      cases e
      exact ⟨_, _, rfl, ⟨hz, rfl⟩, q _ _ _ .same (rp_int.mpr rfl)⟩
    · cases e
  · cases e⟩
def dAbs : List D → Option D
  | [.int i] => some (.int (if i < 0 then -i else i))
  | _ => none
theorem b_abs : Bi X K ct (.builtin "abs") dAbs := ⟨_, call_abs, by
  intro F H ds d vs Q hs r e q
  unfold dAbs at e
  split at e
  · replace r := rvl_one r
    obtain ⟨v, rfl, r⟩ := r
    rw [rv_int] at r
    cases e
    exact ⟨_, by rw [r], q _ _ _ .same (rp_int.mpr rfl)⟩
  · cases e⟩
def dMax2 : List D → Option D
  | [.int i, .int j] => some (.int (if j > i then j else i))
  | _ => none
def dMin2 : List D → Option D
  | [.int i, .int j] => some (.int (if j < i then j else i))
  | _ => none
theorem b_max2 (hc : X.calm = true) : Bi X K ct (.builtin "max") dMax2 := ⟨_, call_max2 hc, by
  intro F H ds d vs Q hs r e q
  unfold dMax2 at e
  split at e
  · replace r := rvl_two r
    obtain ⟨v, w, rfl, r, r'⟩ := r
    rw [rv_int] at r r'
    cases e
    exact ⟨_, _, by rw [r, r'], q _ _ _ .same (rp_int.mpr rfl)⟩
  · cases e⟩
theorem b_min2 (hc : X.calm = true) : Bi X K ct (.builtin "min") dMin2 := ⟨_, call_min2 hc, by
  intro F H ds d vs Q hs r e q
  unfold dMin2 at e
  split at e
  · replace r := rvl_two r
    obtain ⟨v, w, rfl, r, r'⟩ := r
    rw [rv_int] at r r'
    cases e
    exact ⟨_, _, by rw [r, r'], q _ _ _ .same (rp_int.mpr rfl)⟩
  · cases e⟩
end
end G
namespace G
open PySem PySem.Spec PyProof.Rows L2
section
variable {X : Cx} {S : Sg} {Γ : List Kd} {K : Frag} {ct : Ct}
/-- lists of one kind -/
def dInts : List D → Option (List Int)
  | [] => some []
  | .int i :: r => (dInts r).map (i :: ·)
  | _ => none
def dStrs : List D → Option (List Str)
  | [] => some []
  | .str i :: r => (dStrs r).map (i :: ·)
  | _ => none
theorem dStrs_eq : ∀ {ds : List D} {ns : List Str}, dStrs ds = some ns → ds = ns.map .str
  | [], ns, e => by simp only [dStrs] at e; cases e; rfl
  | d :: ds, ns, e => by
    cases d <;> simp only [dStrs] at e <;> try (cases e; done)
    obtain ⟨m, e1, e2⟩ := Option.map_eq_some_iff.mp e
    subst e2
    rw [dStrs_eq e1]; rfl
theorem dStrs_map : ∀ {ns : List Str}, dStrs (ns.map .str) = some ns
  | [] => rfl
  | n :: ns => by simp [dStrs, dStrs_map]
theorem rpl_strs_inv {F : Hp} : ∀ {ns : List Str} {vs : List V}, RpL K ct F (ns.map D.str) vs → vs = ns.map V.str
  | [], vs, h => by simpa using rpl_nil.mp h
  | n :: ns, vs, h => by
    obtain ⟨v, r, rfl, h1, h2⟩ := rpl_cons.mp h
    rw [rp_str.mp h1, rpl_strs_inv h2]; rfl
def dBls : List D → Option (List Bool)
  | [] => some []
  | .bl i :: r => (dBls r).map (i :: ·)
  | _ => none
theorem dBls_eq : ∀ {ds : List D} {ns : List Bool}, dBls ds = some ns → ds = ns.map .bl
  | [], ns, e => by simp only [dBls] at e; cases e; rfl
  | d :: ds, ns, e => by
    cases d <;> simp only [dBls] at e <;> try (cases e; done)
    obtain ⟨m, e1, e2⟩ := Option.map_eq_some_iff.mp e
    subst e2
    rw [dBls_eq e1]; rfl
theorem dBls_map : ∀ {ns : List Bool}, dBls (ns.map .bl) = some ns
  | [] => rfl
  | n :: ns => by simp [dBls, dBls_map]
theorem rpl_bls_inv {F : Hp} : ∀ {ns : List Bool} {vs : List V}, RpL K ct F (ns.map D.bl) vs → vs = ns.map V.bl
  | [], vs, h => by simpa using rpl_nil.mp h
  | n :: ns, vs, h => by
    obtain ⟨v, r, rfl, h1, h2⟩ := rpl_cons.mp h
    rw [rp_bl.mp h1, rpl_bls_inv h2]; rfl
def dAll : List D → Option D
  | [.lst xs] => (dBls xs).map fun bs => .bl (bs.all id)
  | _ => none
def dAny : List D → Option D
  | [.lst xs] => (dBls xs).map fun bs => .bl (bs.any id)
  | _ => none
def dSum : List D → Option D
  | [.lst xs] => (dInts xs).map fun bs => .int bs.sum
  | _ => none
theorem b_all (hK : K = X.K) (hc : X.calm = true) : Bi X K ct (.builtin "all") dAll := ⟨_, cr_all hc, by
  subst hK
  intro F H ds d vs Q hs r e q
  unfold dAll at e
  split at e
  · replace r := rvl_one r
    obtain ⟨v, rfl, r⟩ := r
    rw [rv_lst] at r
    obtain ⟨a, vs, rfl, h1, h2⟩ := r
    obtain ⟨bs, e1, e2⟩ := Option.map_eq_some_iff.mp e
    subst e2
    rw [dBls_eq e1] at h2
    rw [rpl_bls_inv h2] at h1
    exact ⟨a, bs, rfl, SqL.of h1, q _ _ _ .same (rp_bl.mpr rfl)⟩
  · cases e⟩
/-- the greatest, the least of a list of ints -/
def maxL (n : Int) (ns : List Int) : Int := ns.foldl (fun a b => if a < b then b else a) n
def minL (n : Int) (ns : List Int) : Int := ns.foldl (fun a b => if b < a then b else a) n
def rMaxA (K : Frag) : List V → Hp → VK → Prop := fun vs H Q => ∃ (a : Addr) (n : Int) (ns : List Int), vs = [V.ref a] ∧ (SqL K H a ((n :: ns).map V.int) ∨ SqT K H a ((n :: ns).map V.int)) ∧ Q (.int (maxL n ns)) H
def rMinA (K : Frag) : List V → Hp → VK → Prop := fun vs H Q => ∃ (a : Addr) (n : Int) (ns : List Int), vs = [V.ref a] ∧ (SqL K H a ((n :: ns).map V.int) ∨ SqT K H a ((n :: ns).map V.int)) ∧ Q (.int (minL n ns)) H
def dMaxL : List D → Option D
  | [.lst xs] => match dInts xs with
    | some (n :: ns) => some (.int (maxL n ns))
    | _ => none
  | [.tup xs] => match dInts xs with
    | some (n :: ns) => some (.int (maxL n ns))
    | _ => none
  | _ => none
def dMinL : List D → Option D
  | [.lst xs] => match dInts xs with
    | some (n :: ns) => some (.int (minL n ns))
    | _ => none
  | [.tup xs] => match dInts xs with
    | some (n :: ns) => some (.int (minL n ns))
    | _ => none
  | _ => none
/-- list(..), tuple(..) -/
def dListOf : List D → Option D
  | [.lst xs] => some (.lst xs)
  | [.tup xs] => some (.lst xs)
  | [.scr ns] => some (.lst (ns.map .int))
  | _ => none
def dTupOf : List D → Option D
  | [.lst xs] => some (.tup xs)
  | [.tup xs] => some (.tup xs)
  | [.scr ns] => some (.tup (ns.map .int))
  | _ => none
theorem b_tuple (hK : K = X.K) : Bi X K ct (.type "tuple") dTupOf := ⟨_, call_tupleP, by
  subst hK
  intro F H ds d vs Q hs r e q
  unfold dTupOf at e
  split at e
  · replace r := rvl_one r
    obtain ⟨v, rfl, r⟩ := r
    rw [rv_lst] at r
    obtain ⟨a, vs, rfl, h1, h2⟩ := r
    cases e
    exact ⟨_, vs, rfl, .inl ⟨SqL.of h1, fun l ob hl hd => q _ _ _ (.new (o := mkT ob vs) hl) (rp_tup.mpr ⟨l, _, rfl, SqP.of upd_same hd, h2.mono (same_updF (hs.free hl))⟩)⟩⟩
  · replace r := rvl_one r
    obtain ⟨v, rfl, r⟩ := r
    rw [rv_tup] at r
    obtain ⟨a, vs, rfl, h1, h2⟩ := r
    cases e
    exact ⟨_, vs, rfl, .inr ⟨same_t hs h1, q _ _ _ .same (rp_tup.mpr ⟨a, vs, rfl, h1, h2⟩)⟩⟩
  · replace r := rvl_one r
    obtain ⟨v, rfl, r⟩ := r
    rw [rv_scr] at r
    obtain ⟨a, rfl, h1⟩ := r
    cases e
    exact ⟨_, _, rfl, .inl ⟨same_l hs h1, fun l ob hl hd => q _ _ _ (.new (o := mkT ob (List.map V.int _)) hl) (rp_tup.mpr ⟨l, _, rfl, SqP.of upd_same hd, rpl_ints⟩)⟩⟩
  · cases e⟩
end
end G
/-! G6: statements. -/
namespace G
open PySem PySem.Spec PyProof.Rows L2
/-! ### what a statement does, by a plain program -/
inductive SR where
  | nx (ρ : Env) | rt (d : D) (ρ : Env) | bk (ρ : Env) | ct (ρ : Env) | er (x : Ex) (ρ : Env) | no
abbrev MS := Env → SR
def MS.sq (a b : MS) : MS := fun ρ => match a ρ with
  | .nx ρ' => b ρ'
  | r => r
def mNx : MS := fun ρ => .nx ρ
def mBk : MS := fun ρ => .bk ρ
def mCt : MS := fun ρ => .ct ρ
def MS.of {α : Type} (m : M α) (k : α → MS) : MS := fun ρ => match m ρ with
  | .ok a ρ' => k a ρ'
  | .er x ρ' => .er x ρ'
  | .no => .no
/-- what is returned: frozen data; a new object that is nobody's -/
def isPr : D → Bool
  | .tup [_, _] => true
  | _ => false
/-- a new object of one's own; a pair whose first is such a one -/
def RtO (K : Frag) (ct : Ct) (H0 F' H' : Hp) (d : D) (v : V) : Prop := match d with
  | .tup [d1, d2] => ∃ p a w o, v = .ref p ∧ H0 a = none ∧ F' a = none ∧ H' a = some o ∧ OwO K ct F' d1 o ∧ SqP K F' p [.ref a, w] ∧ Rp K ct F' d2 w
  | d => ∃ a o, v = .ref a ∧ H0 a = none ∧ F' a = none ∧ H' a = some o ∧ OwO K ct F' d o
theorem rto_own {K : Frag} {ct : Ct} {H0 F' H' : Hp} {d : D} {v : V} (h : ∃ a o, v = .ref a ∧ H0 a = none ∧ F' a = none ∧ H' a = some o ∧ OwO K ct F' d o) : RtO K ct H0 F' H' d v := by
  obtain ⟨a, o, e, h1, h2, h3, h4⟩ := id h
  cases h4 <;> exact h
theorem rto_inv {K : Frag} {ct : Ct} {H0 F' H' : Hp} {d : D} {v : V} (hn : isPr d = false) (h : RtO K ct H0 F' H' d v) : ∃ a o, v = .ref a ∧ H0 a = none ∧ F' a = none ∧ H' a = some o ∧ OwO K ct F' d o := by
  unfold RtO at h
  split at h
  · cases hn
  · exact h
theorem RtO.late {K : Frag} {ct : Ct} {H H1 F' H' : Hp} {d : D} {v : V} (k : ∀ b, H b ≠ none → H1 b ≠ none) (h : RtO K ct H1 F' H' d v) : RtO K ct H F' H' d v := by
  have key : ∀ a, H1 a = none → H a = none := fun a q => by
    cases e0 : H a with
    | none => rfl
    | some x => exact absurd q (k a (by rw [e0]; simp))
  unfold RtO at h ⊢
  split at h
  · obtain ⟨p, a, w, o, e, h1, h2⟩ := h
    exact ⟨p, a, w, o, e, key a h1, h2⟩
  · obtain ⟨a, o, e, h1, h2⟩ := h
    exact ⟨a, o, e, key a h1, h2⟩
def RtR (S : Sg) (F' H' : Hp) (d : D) (v : V) : Prop := if S.ro = true then RtO S.C.K S.C.ct S.C.H0 F' H' d v else Rp S.C.K S.C.ct F' d v
def TsF (S : Sg) (Γ' : List Kd) (F : Hp) (D : Ends) (r : SR) : Prop := match r with
  | .nx ρ' => ∀ σ' F' H', Same F F' → RS S.C Γ' F' ρ' σ' H' → D.nx σ' H'
  | .rt d ρ' => ∀ v F' H', Same F F' → RO S.C F' ρ' H' → RtR S F' H' d v → D.rt v H'
  | .bk ρ' => ∀ σ' F' H', Same F F' → RS S.C S.gb F' ρ' σ' H' → D.bk σ' H'
  | .ct ρ' => ∀ σ' F' H', Same F F' → RS S.C S.gc F' ρ' σ' H' → D.ct σ' H'
  | .er x ρ' => ∀ cl dx σ' F' H', Same F F' → RE S.C S.ge F' ρ' σ' H' → RX S.C.K S.C.ct F' H' x cl dx → S.W cl dx σ' H'
  | .no => False
def Ts (S : Sg) (Γ Γ' : List Kd) (m : MS) : TS := fun D σ H => ∃ F ρ, RS S.C Γ F ρ σ H ∧ TsF S Γ' F D (m ρ)
section
variable {S : Sg} {Γ Γ' Γ1 Γ2 : List Kd} {F F1 : Hp} {D : Ends}
theorem TsF.late {r : SR} (e : Same F F1) (h : TsF S Γ' F D r) : TsF S Γ' F1 D r := by
  cases r with
  | nx ρ => exact fun σ' F' H' sm rs => h σ' F' H' (e.trans sm) rs
  | rt d ρ => exact fun v F' H' sm ro rp => h v F' H' (e.trans sm) ro rp
  | bk ρ => exact fun σ' F' H' sm rs => h σ' F' H' (e.trans sm) rs
  | ct ρ => exact fun σ' F' H' sm rs => h σ' F' H' (e.trans sm) rs
  | er x ρ => exact fun cl dx σ' F' H' sm re rx => h cl dx σ' F' H' (e.trans sm) re rx
  | no => exact h
theorem TsF.of {α γ : Type} {R : Rel α γ} {m : M α} {k : α → MS} {ρ : Env} {σ : L2.St} {H : Hp} (rs : RS S.C Γ F ρ σ H) (h : TsF S Γ' F D (MS.of m k ρ)) :
    TrF S Γ R m F σ H fun v H1 => ∃ d F1 ρ1, R H F1 H1 d v ∧ Ext (Own Γ σ) F H F1 H1 ∧ RS S.C Γ F1 ρ1 σ H1 ∧ TsF S Γ' F1 D (k d ρ1) := by
  refine ⟨ρ, rs, ?_⟩
  unfold MS.of at h
  cases e : m ρ with
  | no => rw [e] at h; exact h
  | er x ρ' => rw [e] at h; exact fun cl dx F' H' sm re rx => h cl dx σ F' H' sm re rx
  | ok d ρ' =>
    rw [e] at h
    exact fun v F1 H1 r1 x1 q1 => ⟨d, F1, ρ', q1, x1, r1, h.late x1.f⟩
theorem Ts.of {α γ : Type} {R : Rel α γ} {m : M α} {k : α → MS} {σ : L2.St} {H : Hp} (h : Ts S Γ Γ' (MS.of m k) D σ H) :
    Tr S Γ R m σ H fun v H1 => ∃ d F1 ρ1, R H F1 H1 d v ∧ Ext (Own Γ σ) F1 H F1 H1 ∧ RS S.C Γ F1 ρ1 σ H1 ∧ TsF S Γ' F1 D (k d ρ1) := by
  obtain ⟨F, ρ, rs, h⟩ := h
  refine ⟨F, (TsF.of (R := R) rs h).mono fun v H1 ⟨d, F1, ρ1, a, b, c, e⟩ => ⟨d, F1, ρ1, a, ⟨Same.refl _, fun b h => .inl h, b.h, b.n⟩, c, e⟩⟩
end
section
variable (X : Cx) (S : Sg) (Γ Γ' : List Kd)
def EvS (st : Stmt) (m : MS) : Prop := PS X st (Ts S Γ Γ' m)
def EvSs (st : List Stmt) (m : MS) : Prop := PSs X st (Ts S Γ Γ' m)
end
section
variable {X : Cx} {S : Sg} {Γ Γ' Γ1 Γ2 : List Kd} {pos : Pos}
theorem ss_nil : EvSs X S Γ Γ [] mNx := pss_imp pss_nil fun D σ H ⟨F, ρ, rs, h⟩ => h σ F H (Same.refl _) rs
theorem ss_cons {st : Stmt} {rest : List Stmt} {a b : MS} (h1 : EvS X S Γ Γ1 st a) (h2 : EvSs X S Γ1 Γ' rest b) : EvSs X S Γ Γ' (st :: rest) (a.sq b) := pss_imp (pss_cons h1 h2) fun D σ H ⟨F, ρ, rs, h⟩ => by
  refine ⟨F, ρ, rs, ?_⟩
  unfold MS.sq at h
  cases e : a ρ with
  | nx ρ' => rw [e] at h; exact fun σ' F' H' sm rs' => ⟨F', ρ', rs', h.late sm⟩
  | rt d ρ' => rw [e] at h; exact h
  | bk ρ' => rw [e] at h; exact h
  | ct ρ' => rw [e] at h; exact h
  | er x ρ' => rw [e] at h; exact h
  | no => rw [e] at h; exact h
theorem ss_one {st : Stmt} {a : MS} (h1 : EvS X S Γ Γ' st a) : EvSs X S Γ Γ' [st] a := pss_one h1
/-- slots' own objects are frozen -/
def frzL : List Nat → List Kd → Option (List Kd)
  | [], Γ => some Γ
  | i :: is, Γ => match Γ[i]? with
    | some .io => none
    | none => none
    | _ => frzL is (Γ.set i .fz)
theorem RS.frzs {C : Fx} {ρ : Env} {σ : L2.St} {H : Hp} : ∀ {is : List Nat} {Γ Γ2 : List Kd} {F : Hp}, frzL is Γ = some Γ2 → RS C Γ F ρ σ H → ∃ F', Same F F' ∧ RS C Γ2 F' ρ σ H
  | [], Γ, Γ2, F, e, r => by simp only [frzL] at e; cases e; exact ⟨F, Same.refl _, r⟩
  | i :: is, Γ, Γ2, F, e, r => by
    simp only [frzL] at e
    cases hk : Γ[i]? with
    | none => rw [hk] at e; cases e
    | some k =>
      have hn : k ≠ .io := fun z => by rw [hk, z] at e; cases e
      have e' : frzL is (Γ.set i .fz) = some Γ2 := by
        rw [hk] at e
        cases k with
        | io => exact absurd rfl hn
        | fz => exact e
        | ow => exact e
      obtain ⟨F1, s1, r1⟩ := r.frz (i := i) ⟨k, hk, hn⟩
      obtain ⟨F2, s2, r2⟩ := RS.frzs e' r1
      exact ⟨F2, s1.trans s2, r2⟩
/-- a mirror in other words -/
theorem EvSs.to {st : List Stmt} {m m' : MS} (h : EvSs X S Γ Γ' st m) (e : m = m') : EvSs X S Γ Γ' st m' := e ▸ h
/-- name = value: frozen data; an object of one's own -/
def mSet (i : Nat) (m : M D) : MS := .of m fun d ρ => .nx (ρ.set i (some d))
theorem s_set {i : Nat} {x : Str} {e : Expr} {m : M D} {pos' : Pos} (he : EvE X S Γ e m) (hN : X.N.Nodup) (hi : X.N[i]? = some x) (hx : Loc X.env.scope x) (hf : X.fn x = true ∨ X.env.scope.names.lookup x = some .local) (hk : ∃ k, Γ[i]? = some k ∧ k ≠ .io) (hs : swapsWith e (some (.Name x pos')) pos.line X.env = pure false := by rfl) :
    EvS X S Γ (Γ.set i .fz) (.Assign [.Name x pos'] e pos) (mSet i m) := ps_imp (ps_set hN hi hx he hs hf) fun D σ H h => by
  refine (Ts.of (R := rD S) h).mono fun v H1 ⟨d, F1, ρ1, q, _, rs, h⟩ => ?_
  exact h _ F1 H1 (Same.refl _) (rs.setF hk q)
/-- if -/
def mIfS (c : M Bool) (a b : MS) : MS := .of c fun k => if k = true then a else b
theorem s_if {c : Expr} {a b : List Stmt} {mc : M Bool} {ma mb : MS} (hc : EvT X S Γ c mc) (ha : EvSs X S Γ Γ' a ma) (hb : EvSs X S Γ Γ' b mb) : EvS X S Γ Γ' (.If c a b pos) (mIfS mc ma mb) := ps_imp (ps_if hc ha hb) fun D σ H h => by
  refine (Ts.of (R := rB) h).mono fun v H1 ⟨d, F1, ρ1, q, _, rs, h⟩ => ?_
  cases (show d = v from q)
  cases v with
  | true => exact iteT ⟨F1, ρ1, rs, h⟩
  | false => exact iteF ⟨F1, ρ1, rs, h⟩
/-- return -/
def mRet (m : M D) : MS := .of m fun d ρ => .rt d ρ
theorem s_ret {e : Expr} {m : M D} (he : EvE X S Γ e m) (hr : S.ro = false := by rfl) : EvS X S Γ Γ' (.Return (some e) pos) (mRet m) := ps_imp (ps_ret he) fun D σ H h => by
  refine (Ts.of (R := rD S) h).mono fun v H1 ⟨d, F1, ρ1, q, _, rs, h⟩ => ?_
  refine h v F1 H1 (Same.refl _) rs.ro ?_
  unfold RtR
  rw [if_neg (by rw [hr]; exact Bool.false_ne_true)]
  exact q
/-- a new object of one's own is handed out -/
theorem s_retO {e : Expr} {m : M D} (he : EvO X S Γ e m) (hr : S.ro = true := by rfl) : EvS X S Γ Γ' (.Return (some e) pos) (mRet m) := ps_imp (ps_ret he) fun D σ H ⟨F, ρ, rs0, h⟩ => by
  refine ⟨F, (TsF.of (R := rO S) rs0 h).mono fun v H1 ⟨d, F1, ρ1, q, _, rs, h⟩ => ?_⟩
  refine h v F1 H1 (Same.refl _) rs.ro ?_
  unfold RtR
  rw [if_pos hr]
  obtain ⟨a, o, e1, h1, h2, h3, h4⟩ := q
  refine rto_own ⟨a, o, e1, ?_, h2, h3, h4⟩
  cases e0 : S.C.H0 a with
  | none => rfl
  | some y => exact absurd h1 (rs0.ext.n a (by rw [e0]; simp))
def mRetN : MS := fun ρ => .rt .non ρ
/-- an expression alone -/
def mExp (m : M D) : MS := .of m fun _ ρ => .nx ρ
theorem s_exp {e : Expr} {m : M D} (he : EvE X S Γ e m) (hs : swapsWith e none pos.line X.env = pure false := by rfl) : EvS X S Γ Γ (.Expr e pos) (mExp m) := ps_imp (ps_expr he hs) fun D σ H h => by
  refine (Ts.of (R := rD S) h).mono fun v H1 ⟨d, F1, ρ1, q, _, rs, h⟩ => ?_
  exact h σ F1 H1 (Same.refl _) rs
/-! ### targets -/
abbrev MG := D → Env → Option Env
abbrev MGs := List D → Env → Option Env
/-- only these slots are touched -/
def OnlyS (is : List Nat) (σ σ' : L2.St) : Prop := σ'.length = σ.length ∧ ∀ i, i ∉ is → σ'[i]? = σ[i]?
def TgT (S : Sg) (Γ Γ' : List Kd) (is : List Nat) (g : MG) : TG := fun v σ H Q => ∃ F ρ d ρ', RS S.C Γ F ρ σ H ∧ Rp S.C.K S.C.ct F d v ∧ g d ρ = some ρ' ∧ ∀ σ', OnlyS is σ σ' → RS S.C Γ' F ρ' σ' H → Q σ' H
def TgTs (S : Sg) (Γ Γ' : List Kd) (is : List Nat) (g : MGs) : TGs := fun vs σ H Q => ∃ F ρ ds ρ', RS S.C Γ F ρ σ H ∧ RpL S.C.K S.C.ct F ds vs ∧ g ds ρ = some ρ' ∧ ∀ σ', OnlyS is σ σ' → RS S.C Γ' F ρ' σ' H → Q σ' H
def EvG (X : Cx) (S : Sg) (Γ Γ' : List Kd) (is : List Nat) (e : Expr) (g : MG) : Prop := PG X e (TgT S Γ Γ' is g)
def EvGs (X : Cx) (S : Sg) (Γ Γ' : List Kd) (is : List Nat) (e : List Expr) (g : MGs) : Prop := PGs X e (TgTs S Γ Γ' is g)
theorem pg_imp {e : Expr} {t t' : TG} (h : PG X e t) (k : ∀ v σ H Q, t' v σ H Q → t v σ H Q) : PG X e t' := ⟨fun pins s σ H v u Q I r q => h.run pins s σ H v u Q I r (k _ _ _ _ q)⟩
theorem pgs_imp {e : List Expr} {t t' : TGs} (h : PGs X e t) (k : ∀ v σ H Q, t' v σ H Q → t v σ H Q) : PGs X e t' := ⟨fun pins s σ H v u Q I r q => h.run pins s σ H v u Q I r (k _ _ _ _ q)⟩
def gN (i : Nat) : MG := fun d ρ => some (ρ.set i (some d))
theorem g_name {i : Nat} {x : Str} (hN : X.N.Nodup) (hi : X.N[i]? = some x) (hx : Loc X.env.scope x) (hf : X.fn x = true ∨ X.env.scope.names.lookup x = some .local) (hk : ∃ k, Γ[i]? = some k ∧ k ≠ .io) : EvG X S Γ (Γ.set i .fz) [i] (.Name x pos) (gN i) :=
  pg_imp (pg_name hN hi hx hf) fun v σ H Q ⟨F, ρ, d, ρ', rs, r, e, q⟩ => by
    cases e
    exact q _ ⟨by simp, fun j hj => List.getElem?_set_ne fun z => hj (by simp [z])⟩ (rs.setF hk r)
def gE : MGs := fun ds ρ => match ds with
  | [] => some ρ
  | _ => none
def gC (g : MG) (gs : MGs) : MGs := fun ds ρ => match ds with
  | d :: r => (g d ρ).bind (gs r)
  | [] => none
theorem g_nil : EvGs X S Γ Γ [] [] gE := pgs_imp pgs_nil fun vs σ H Q ⟨F, ρ, ds, ρ', rs, r, e, q⟩ => by
  cases ds with
  | nil =>
    simp only [gE] at e
    cases e
    exact ⟨rpl_nil.mp r, q _ ⟨rfl, fun _ _ => rfl⟩ rs⟩
  | cons d r => simp only [gE] at e; cases e
theorem g_cons {e : Expr} {es : List Expr} {g : MG} {gs : MGs} {is js : List Nat} (h1 : EvG X S Γ Γ1 is e g) (h2 : EvGs X S Γ1 Γ' js es gs) (hs : (assignEach (e :: es) X.env).map (·.2) = assign e X.env :: (assignEach es X.env).map (·.2) := by rfl) : EvGs X S Γ Γ' (is ++ js) (e :: es) (gC g gs) :=
  pgs_imp (pgs_cons h1 h2 hs) fun vs σ H Q ⟨F, ρ, ds, ρ', rs, r, e, q⟩ => by
    cases ds with
    | nil => simp only [gC] at e; cases e
    | cons d ds =>
      simp only [gC] at e
      obtain ⟨ρ1, e1, e2⟩ := Option.bind_eq_some_iff.mp e
      obtain ⟨v, vr, rfl, r1, r2⟩ := rpl_cons.mp r
      exact ⟨v, vr, rfl, F, ρ, d, ρ1, rs, r1, e1, fun σ1 o1 rs1 => ⟨F, ρ1, ds, ρ', rs1, r2, e2, fun σ2 o2 rs2 => q σ2 ⟨o2.1.trans o1.1, fun i hi => (o2.2 i fun z => hi (List.mem_append_right _ z)).trans (o1.2 i fun z => hi (List.mem_append_left _ z))⟩ rs2⟩⟩
def gT (n : Nat) (gs : MGs) : MG := fun d ρ => match d with
  | .tup ds => if ds.length = n then gs ds ρ else none
  | _ => none
theorem g_tup {es : List Expr} {k : Nat} {gs : MGs} {n : Nat} {is : List Nat} (hc : X.calm = true) (h : EvGs X S Γ Γ' is es gs) (hK : S.C.K = X.K := by rfl) (hn : (assignEach es X.env).length = n := by rfl) (hst : (assignEach es X.env).findIdx? (·.1) = none := by rfl) :
    EvG X S Γ Γ' is (.Tuple es k pos) (gT n gs) := pg_imp (pg_tup hc h hn hst) fun v σ H Q ⟨F, ρ, d, ρ', rs, r, e, q⟩ => by
  cases d <;> simp only [gT] at e <;> try (cases e; done)
  split at e
  · rename_i hl
    obtain ⟨a, vs, rfl, h1, h2⟩ := rp_tup.mp r
    exact ⟨a, vs, rfl, by rw [← hK]; exact same_t rs.sub h1, by rw [← h2.length]; exact hl, F, ρ, _, ρ', rs, h2, e, q⟩
  · cases e
/-- target = value -/
def mAsg (g : MG) (m : M D) : MS := .of m fun d ρ => match g d ρ with
  | some ρ' => .nx ρ'
  | none => .no
end
end G
/-! G7: enumerate and zip over lists and tuples, mixed. -/
namespace PySem
open Sem (wp)
theorem gEnumNew {v : Value} {o : Obj} {H : Heap → Prop} (B : Begins v o H) :
    Meets (Builtin.«enumerate.__new__» ⟨[.type "enumerate", v], []⟩) (fun _ R s => H s.heap ∧
      R (.ok (.ret (.ref (s.heap.push o).objs.size))) { s with heap := (s.heap.push o).push { cls := .type "enumerate", data := .fields #[.none, .bool false, .ref s.heap.objs.size, rawInt 0, .none, .none] } }) :=
  .of_wp fun prog w A R s h => by
    obtain ⟨hp, g, d, tk, os⟩ := s; obtain ⟨h1, h⟩ := h
    have hsub := sub_enumerate
    have q1 : ∀ {A' : Around} {E : Value → Shared → Prop} {Q : Value → Shared → Prop}, Q (.ref hp.objs.size) ⟨hp.push o, g, d, tk, os⟩ → wpAny (model prog w) A' (pyIter v) Q E ⟨hp, g, d, tk, os⟩ :=
      fun q => B.iter prog w _ _ ⟨hp, g, d, tk, os⟩ _ h1 q
    wp_walk using q1
    refine wpAny_stack_any fun st => wpAny_pure ?_
    split
    · rename_i c _ _ _ _ _
      cases (c == Value.type "enumerate")
      · wp_walk using q1
        exact ⟨_, rfl, h⟩
      · wp_walk using q1
        exact ⟨_, rfl, h⟩
    · wp_walk using q1
      exact ⟨_, rfl, h⟩
theorem gEnumBegins {prog : Program} {w : World} {A : Around} {E : Value → Shared → Prop} {s : Shared} {v : Value} {o : Obj} {H : Heap → Prop} {Q : Value → Shared → Prop} (B : Begins v o H) (h1 : H s.heap)
    (h : ∀ h', IsEnum h' (s.heap.objs.size + 1) s.heap.objs.size 0 .none → h'.get? s.heap.objs.size = some o → h'.objs.size = s.heap.objs.size + 2 →
      (∀ b o, s.heap.get? b = some o → h'.get? b = some o) → Q (.ref (s.heap.objs.size + 1)) { s with heap := h' }) :
    wpAny (model prog w) A (call (.type "enumerate") [v]) Q E s := by
  refine callType_new F.called_enumerate (by decide) (F.typeCall_enumerate_1 _) (F.newCall_enumerate_1 _) (fun obj => F.args_object_init_2 obj _) F.entry_enumerate_new
    (gEnumNew B) ⟨h1, ?_⟩
  have hz : (s.heap.push o).objs.size = s.heap.objs.size + 1 := Heap.size_push ..
  show _ ∧ _
  rw [hz]
  have he : IsEnum ((s.heap.push o).push { cls := .type "enumerate", data := .fields #[.none, .bool false, .ref s.heap.objs.size, rawInt 0, .none, .none] }) (s.heap.objs.size + 1) s.heap.objs.size 0 .none := by
    have := Heap.get?_push_size (s.heap.push o) (o := { cls := .type "enumerate", data := .fields #[.none, .bool false, .ref s.heap.objs.size, rawInt 0, .none, .none] }) rfl
    rw [hz] at this; exact this
  refine ⟨⟨_, he, rfl⟩, h _ he (Heap.get?_push_of_some _ (Heap.get?_push_size _ B.free)) (by rw [Heap.size_push, hz]) fun b o x => Heap.get?_push_of_some _ (Heap.get?_push_of_some _ x)⟩
end PySem
namespace G
open PySem PySem.Spec PyProof.Rows L2
/-- a list, a tuple -/
inductive Sd where
  | l | t
def SqB (K : Frag) (sd : Sd) (H : Hp) (a : Addr) (xs : List V) : Prop := match sd with
  | .l => SqL K H a xs
  | .t => SqT K H a xs
def ItB (sd : Sd) (h : Heap) (it a : Addr) (i : Nat) : Prop := match sd with
  | .l => h.IsListIter it a i
  | .t => h.IsTupleIter it a i
def ObB (sd : Sd) (h : Heap) (a : Addr) (its : Array Value) : Prop := match sd with
  | .l => h.IsList a its
  | .t => h.IsTuple a its
def oB (sd : Sd) (a : Addr) : Obj := match sd with
  | .l => { cls := .type "list_iterator", data := .fields #[.ref a, .int 0 0] }
  | .t => { cls := .type "tuple_iterator", data := .fields #[.ref a, .int 0 0] }
theorem itB_new {sd : Sd} {h : Heap} {it a : Addr} (e : h.get? it = some (oB sd a)) : ItB sd h it a 0 := by
  cases sd
  · exact ⟨_, e, rfl, rfl⟩
  · exact ⟨_, e, rfl, rfl⟩
theorem ItB.at {sd : Sd} {h h' : Heap} {it a : Addr} {i : Nat} (x : ItB sd h it a i) (k : ∀ o, h.get? it = some o → h'.get? it = some o) : ItB sd h' it a i := by
  cases sd
  · exact Heap.IsListIter.at x k
  · obtain ⟨o, e, q⟩ := x; exact ⟨o, k o e, q⟩
theorem ItB.obj {sd : Sd} {h : Heap} {it a : Addr} {i : Nat} (x : ItB sd h it a i) : ∃ o, h.get? it = some o ∧ ∀ v, o.data ≠ .cell v := by
  cases sd
  · obtain ⟨o, e, _, d⟩ := x; exact ⟨o, e, fun v q => by rw [d] at q; cases q⟩
  · obtain ⟨o, e, _, d⟩ := x; exact ⟨o, e, fun v q => by rw [d] at q; cases q⟩
theorem ObB.lt {sd : Sd} {h : Heap} {a : Addr} {its : Array Value} (x : ObB sd h a its) : a < h.objs.size := by
  cases sd
  · obtain ⟨o, e, _⟩ := x; exact Heap.lt_size e
  · obtain ⟨o, e, _⟩ := x; exact Heap.lt_size e
theorem drawB {prog : Program} {w : World} {A : Around} (hh : A.handled = none) (sd : Sd) (it a : Addr) (hne : a ≠ it) (items : Array Value) :
    Draws prog w A it [it, a] items.size (fun i v => items[i]? = some v) (fun i h => ItB sd h it a i ∧ ObB sd h a items) := by
  cases sd
  · exact Draws.list hh it a hne items
  · exact Draws.tuple hh it a hne items
theorem beginB (sd : Sd) (a : Addr) (items : Array Value) : Begins (.ref a) (oB sd a) fun h => ObB sd h a items := by
  cases sd
  · exact begins_list a items
  · exact begins_tuple a items
section
variable {X : Cx} {pins : List (Addr × Obj)} {σ : L2.St} {H : Hp} {s : Shared} {a : Addr} {xs ys : List V} {sd sd2 : Sd}
theorem inv_sq (I : Inv X pins σ H s) (h : SqB X.K sd H a xs) : ∃ its : List Value, Vals xs its ∧ ObB sd s.heap a its.toArray := by
  cases sd
  · obtain ⟨its, r, p, _⟩ := I.list h; exact ⟨its, r, p.isList⟩
  · obtain ⟨its, r, p, _⟩ := I.tuple h; exact ⟨its, r, p⟩
theorem inv_sq_inj (I : Inv X pins σ H s) (h : SqB X.K sd H a xs) (h' : SqB X.K sd H a ys) : xs = ys := by
  cases sd
  · exact I.list_inj h h'
  · exact I.tuple_inj h h'
end
/-- enumerate -/
def IteB (K : Frag) (sd : Sd) (a : Addr) : It :=
  ⟨fun i H => ∃ (xs : List V) (x : V), SqB K sd H a xs ∧ xs[i]? = some x, fun i H v H' => ∃ T x, v = .ref T ∧ H T = none ∧ H' = upd H T (.tup [.int (i : Nat), x]) ∧ ∀ xs, SqB K sd H a xs → xs[i]? = some x, fun i H => ∃ xs : List V, SqB K sd H a xs ∧ xs.length = i⟩
theorem turn_enumB {P : Program} {w : World} {K : Frag} {elts : List Expr} {kk : Nat} {tpos : Pos} (sd : Sd) (a e it : Addr) :
    Turn P w K (.Tuple elts kk tpos) (IteB K sd a) [e, it] e (fun i h => (∃ old, IsEnum h e it ((i : Nat) : Int) old) ∧ ItB sd h it a i ∧ e ≠ it ∧ e ≠ a ∧ a ≠ it) where
  mem := by simp
  obj := fun i h st b hb => by
    obtain ⟨⟨old, he⟩, hi, _⟩ := st
    have e' : b = e ∨ b = it := by simpa using hb
    rcases e' with z | z
    · rw [z]; exact ⟨_, he, fun v q => nomatch q⟩
    · rw [z]; exact hi.obj
  keep := fun i h h' st k => let ⟨⟨old, he⟩, hi, hne⟩ := st; ⟨⟨old, k e (by simp) _ he⟩, hi.at fun o q => k it (by simp) o q, hne⟩
  item := by
    intro X hP hw hK hc i pins s σ H E I hf st hg
    subst hP hw hK
    obtain ⟨⟨old, he⟩, hit, hne, hea, hai⟩ := st
    obtain ⟨xs, x, hq, hx⟩ := hg
    obtain ⟨its, rv, p⟩ := inv_sq I hq
    obtain ⟨u, hu, ru⟩ := rv.get hx
    have hel : e < s.heap.objs.size := Heap.lt_size he
    have hil : it < s.heap.objs.size := by obtain ⟨_, q, _⟩ := hit.obj; exact Heap.lt_size q
    have hlt : i < its.toArray.size := by
      have := (List.getElem?_eq_some_iff.mp hu).1
      simpa using this
    refine wpAny_pyNext_enum_itemD (drawB (A := X.A.in1) (I.ok.hd hc) sd it a hai its.toArray) he ⟨hit, p⟩ hlt hne (by simp [hne, hea]) fun y h' tk hy ho st' hT hsz hk => ?_
    have eu : y = u := by
      have : its[i]? = some y := by simpa using hy
      rw [hu] at this; cases this; rfl
    subst eu
    refine ⟨_, rfl, wpAny_letOwnedTupleGo_enum (s := { s with heap := h', toks := tk + 1 }) ho fun h'' he' sb => ?_⟩
    have hT2 : h''.get? s.heap.objs.size = some { cls := .type "tuple", data := .seq #[.int i tk, y] } := (sb.2 _ (Nat.ne_of_gt hel)).trans hT
    have new : ObjOk X.prog X.w (upd H s.heap.objs.size (.tup [.int (i : Nat), x])) h'' s.heap.objs.size (.tup [.int (i : Nat), x]) :=
      ⟨by show 2 ≤ sizeLine; decide, [.int i tk, y], .cons ⟨_, rfl⟩ (.cons ru .nil), ⟨_, hT2, rfl, _, rfl⟩⟩
    have I1 : Inv X pins σ (upd H s.heap.objs.size (.tup [.int (i : Nat), x])) { s with heap := h'', toks := tk + 1 } :=
      I.turnedNew (ch := [e, it]) (fun b ob hb q => (sb.2 b (fun z => hb (by simp [z]))).trans (hk b ob (fun z => hb (by simp [z])) (fun z => hb (by simp [z])) q)) hf (Nat.le_refl _) new
    refine ⟨.ref s.heap.objs.size, _, I1, rfl, ⟨_, x, rfl, I.hok.fresh (Nat.le_refl _), rfl, fun ys hy => by rw [inv_sq_inj I hy hq]; exact hx⟩, ⟨⟨y, ?_⟩, st'.1.at fun o q => (sb.2 it (Ne.symm hne)).trans q, hne, hea, hai⟩, fun b hb => ?_⟩
    · have e1 : ((i + 1 : Nat) : Int) = (i : Int) + 1 := by omega
      rw [e1]; exact he'
    · have hb' : b < s.heap.objs.size := by
        have e' : b = e ∨ b = it := by simpa using hb
        rcases e' with z | z
        · rw [z]; exact hel
        · rw [z]; exact hil
      rw [upd_ne (Nat.ne_of_lt hb')]
      exact (hf b hb).1
  done := by
    intro X hP hw hK hc i pins s σ H E I hf st hg
    subst hP hw hK
    obtain ⟨⟨old, he⟩, hit, hne, hea, hai⟩ := st
    obtain ⟨xs, hq, hx⟩ := hg
    obtain ⟨its, rv, p⟩ := inv_sq I hq
    obtain ⟨f0, f1, f2, f3, f4, f5⟩ := hf it (by simp)
    have hl := rv.length
    have hn : i = its.toArray.size := by simp; omega
    subst hn
    exact wpAny_pyNext_enum_endD (drawB (A := X.A.in1) (I.ok.hd hc) sd it a hai its.toArray) he ⟨hit, p⟩ fun h' eb => ⟨rfl, I.turned (t' := s.toks) (fun b o hb q => eb b o hb q) f0 f1 f3 f4 f5⟩
  self := fun A i s Q E st h => let ⟨⟨_, he⟩, _⟩ := st; wpAny_pyIter_enum he h
def iEnumB (K : Frag) (ta : TA) : TI := fun σ H R => ta σ H fun vs H1 => ∃ sd a xs, vs = [.ref a] ∧ SqB K sd H1 a xs ∧ R (IteB K sd a) H1
theorem pi_enumB {X : Cx} {e : Expr} {ta : TA} {p pos tpos : Pos} {elts : List Expr} {kk : Nat} (hg : Gl X "enumerate") (hm : X.mg "enumerate" = none) (ha : PA X [e] ta) (hs : starEach [e] X.env = [(false, eval e X.env)] := by rfl) :
    PI X (.Tuple elts kk tpos) (.Call (.Name "enumerate" p) [e] [] pos) (iEnumB X.K ta) := by
  refine ⟨fun pins s σ H R I h => ?_⟩
  refine Call_ (ld_blt I hg hm boot_enumerate (PyProof.Rows.callWith_type1 (thn (ha.run pos pins s σ H _ I h) fun us s1 ⟨vs, H1, I1, r1, q1⟩ => ?_) hs rfl))
  obtain ⟨sd, a, xs, ex, hq, q⟩ := q1
  subst ex
  cases r1 with
  | cons r rr =>
    cases rr
    cases r
    obtain ⟨its, rv, p'⟩ := inv_sq I1 hq
    refine gEnumBegins (beginB sd a its.toArray) p' fun h' he hit hsz hk => wpAny_pyIter_enum he ?_
    have I2 : Inv X pins σ H1 { s1 with heap := h' } := I1.kept (t' := s1.toks) hk
    have hlt := p'.lt
    refine ⟨s1.heap.objs.size + 1, [s1.heap.objs.size + 1, s1.heap.objs.size], _, _, H1, rfl, I2, turn_enumB sd a (s1.heap.objs.size + 1) s1.heap.objs.size, ⟨⟨.none, he⟩, itB_new hit, Nat.succ_ne_self _, Nat.ne_of_gt (Nat.lt_succ_of_lt hlt), Nat.ne_of_lt hlt⟩, fun b hb => ?_, q⟩
    have e' : b = s1.heap.objs.size + 1 ∨ b = s1.heap.objs.size := by simpa using hb
    have hle : s1.heap.objs.size ≤ b := by
      rcases e' with z | z
      · rw [z]; exact Nat.le_add_right _ _
      · rw [z]; exact Nat.le_refl _
    exact I1.fpOk hle (I1.hok.fresh hle)
/-- zip of two -/
def ItzB (K : Frag) (sd sd2 : Sd) (a b : Addr) : It :=
  ⟨fun i H => ∃ (xs ys : List V) (x y : V), SqB K sd H a xs ∧ SqB K sd2 H b ys ∧ xs[i]? = some x ∧ ys[i]? = some y,
    fun i H v H' => ∃ T x y ob, v = .ref T ∧ H T = none ∧ ob.dict = none ∧ H' = upd H T (mkT ob [x, y]) ∧ (∀ xs, SqB K sd H a xs → xs[i]? = some x) ∧ ∀ ys, SqB K sd2 H b ys → ys[i]? = some y,
    fun i H => ∃ xs ys : List V, SqB K sd H a xs ∧ SqB K sd2 H b ys ∧ i ≤ xs.length ∧ i ≤ ys.length ∧ (i = xs.length ∨ i = ys.length)⟩
def iZipB (K : Frag) (ta : TA) : TI := fun σ H R => ta σ H fun vs H1 => ∃ sd sd2 a b xs ys, vs = [.ref a, .ref b] ∧ SqB K sd H1 a xs ∧ SqB K sd2 H1 b ys ∧ R (ItzB K sd sd2 a b) H1
end G
/-! G8: what is walked; for, while. -/
namespace G
open PySem PySem.Spec PyProof.Rows L2
/-! ### what is walked, by its items -/
def ItOk (K : Frag) (ct : Ct) (F : Hp) (ds : List D) (J : It) : Prop := ∀ (F2 H : Hp) (i : Nat), Same F F2 → Same F2 H →
  (i = ds.length → J.stop i H) ∧ ∀ d, ds[i]? = some d → J.go i H ∧ ∀ x H', J.yld i H x H' → ∃ F', Gw F2 H F' H' ∧ Rp K ct F' d x
def rI (S : Sg) : Rel (List D) It := fun _ F _ ds J => ItOk S.C.K S.C.ct F ds J
theorem rI_late {S : Sg} : (rI S).Late := fun _ _ _ _ _ _ _ h => h
def EvI (X : Cx) (S : Sg) (Γ : List Kd) (tg iter : Expr) (m : M (List D)) : Prop := PI X tg iter (Tr S Γ (rI S) m)
theorem pi_imp {X : Cx} {tg e : Expr} {t t' : TI} (h : PI X tg e t) (k : ∀ σ H R, t' σ H R → t σ H R) : PI X tg e t' := ⟨fun pins s σ H R I q => h.run pins s σ H R I (k _ _ _ q)⟩
def Itq (K : Frag) (sd : Sd) (a : Addr) : It := match sd with
  | .l => Itl K a
  | .t => Itt K a
def iAny (K : Frag) (tl : TE) : TI := fun σ H R => tl σ H fun x H1 => (∃ sd a, x = .ref a ∧ (∃ xs, SqB K sd H1 a xs) ∧ R (Itq K sd a) H1) ∨ ∃ z, x = .str z ∧ R (Its z) H1
theorem pi_any {X : Cx} {tg l : Expr} {tl : TE} (hl : PE X l tl) : PI X tg l (iAny X.K tl) := by
  refine ⟨fun pins s σ H R I h => ?_⟩
  refine thn (hl.run pins s σ H _ I h) fun v s1 ⟨x, H1, I1, r1, q1⟩ => ?_
  rcases q1 with ⟨sd, a, e, ⟨xs, hq⟩, q⟩ | ⟨z, e, q⟩
  · subst e
    cases r1
    have fp : ∀ b ∈ [s1.heap.objs.size], FpOk X pins H1 b := fun b hb => by
      have e : b = s1.heap.objs.size := by simpa using hb
      subst e
      exact I1.fpOk (Nat.le_refl _) (I1.hok.fresh (Nat.le_refl _))
    cases sd with
    | l =>
      obtain ⟨its, rv, p, hz⟩ := I1.list hq
      refine wpAny_pyIter_list p.isList ?_
      exact ⟨s1.heap.objs.size, [s1.heap.objs.size], _, _, H1, rfl, I1.kept (t' := s1.toks) fun b o e => Heap.get?_push_of_some _ e, turn_list a _, ⟨_, Heap.get?_push_size _ rfl, rfl, rfl⟩, fp, q⟩
    | t =>
      obtain ⟨its, rv, p, hz⟩ := I1.tuple hq
      refine wpAny_pyIter_tuple (show s1.heap.IsTuple a its.toArray from p) ?_
      exact ⟨s1.heap.objs.size, [s1.heap.objs.size], _, _, H1, rfl, I1.kept (t' := s1.toks) fun b o e => Heap.get?_push_of_some _ e, turn_tuple a _, ⟨_, Heap.get?_push_size _ rfl, rfl, rfl⟩, fp, q⟩
  · subst e
    obtain ⟨t, rfl⟩ := r1
    cases ha : z.cps.all (· < 128)
    · exact wpAny_pyIter_wide ha (pi_one (tk := s1.toks) I1 _ (turn_str _ z t "str_iterator" (.inr rfl)) ⟨_, Heap.get?_push_size _ rfl, rfl, rfl⟩ q)
    · exact wpAny_pyIter_ascii ha (pi_one (tk := s1.toks) I1 _ (turn_str _ z t "str_ascii_iterator" (.inl rfl)) ⟨_, Heap.get?_push_size _ rfl, rfl, rfl⟩ q)
/-- the items of a list, a tuple, a text -/
def dIt : D → Option (List D)
  | .lst xs => some xs
  | .tup xs => some xs
  | .scr ns => some (ns.map .int)
  | .str x => some (x.cps.toList.map fun c => .str ⟨#[c]⟩)
  | _ => none
/-- how a walked thing lies -/
def Sq (K : Frag) (ct : Ct) (F : Hp) (ds : List D) (sd : Sd) (a : Addr) : Prop := ∃ vs, SqB K sd F a vs ∧ RpL K ct F ds vs
theorem same_sq {K : Frag} {sd : Sd} {H H' : Hp} {a : Addr} {xs : List V} (e : Same H H') (h : SqB K sd H a xs) : SqB K sd H' a xs := by
  cases sd
  · exact same_l e h
  · exact same_t0 e h
section
variable {K : Frag} {ct : Ct} {F H : Hp}
theorem sq_lst {ds : List D} {v : V} (r : Rp K ct F (.lst ds) v) : ∃ a, v = .ref a ∧ Sq K ct F ds .l a := by
  obtain ⟨a, vs, rfl, h1, h2⟩ := rp_lst.mp r
  exact ⟨a, rfl, vs, SqL.of h1, h2⟩
theorem sq_scr {ns : List Int} {v : V} (r : Rp K ct F (.scr ns) v) : ∃ a, v = .ref a ∧ Sq K ct F (ns.map .int) .l a := by
  obtain ⟨a, rfl, h1⟩ := rp_scr.mp r
  exact ⟨a, rfl, _, h1, rpl_ints⟩
theorem sq_tup {ds : List D} {v : V} (r : Rp K ct F (.tup ds) v) : ∃ a, v = .ref a ∧ Sq K ct F ds .t a := by
  obtain ⟨a, vs, rfl, h1, h2⟩ := rp_tup.mp r
  exact ⟨a, rfl, vs, h1.t, h2⟩
/-- a list or a tuple -/
def dSq : D → Option (List D)
  | .lst xs => some xs
  | .tup xs => some xs
  | .scr ns => some (ns.map .int)
  | _ => none
theorem sq_of {d : D} {v : V} {ds : List D} (r : Rp K ct F d v) (e : dSq d = some ds) : ∃ sd a, v = .ref a ∧ Sq K ct F ds sd a := by
  cases d <;> simp only [dSq] at e <;> try (cases e; done)
  · cases e; obtain ⟨a, h⟩ := sq_tup r; exact ⟨_, a, h⟩
  · cases e; obtain ⟨a, h⟩ := sq_lst r; exact ⟨_, a, h⟩
  · cases e; obtain ⟨a, h⟩ := sq_scr r; exact ⟨_, a, h⟩
end
section
variable {X : Cx} {S : Sg} {Γ : List Kd} {K : Frag} {ct : Ct} {F : Hp}
/-- the yield where nothing is new -/
theorem itOk_seq {ds : List D} {sd : Sd} {a : Addr} (h : Sq K ct F ds sd a) : ItOk K ct F ds (Itq K sd a) := fun F2 H i s1 s2 => by
  obtain ⟨vs, q, r⟩ := h
  have r2 := r.mono s1
  have q2 := same_sq (s1.trans s2) q
  cases sd with
  | l =>
    refine ⟨fun e => ⟨vs, q2, by rw [e, r.length]; exact Nat.le_refl _⟩, fun d e => ?_⟩
    obtain ⟨v, e1, e2⟩ := r2.get e
    refine ⟨⟨vs, v, q2, e1⟩, fun x H' y => ?_⟩
    obtain ⟨eh, y⟩ := y
    subst eh
    have := y vs q2
    rw [e1] at this
    cases this
    exact ⟨F2, .same, e2⟩
  | t =>
    refine ⟨fun e => ⟨vs, q2, by rw [e, r.length]; exact Nat.le_refl _⟩, fun d e => ?_⟩
    obtain ⟨v, e1, e2⟩ := r2.get e
    refine ⟨⟨vs, v, q2, e1⟩, fun x H' y => ?_⟩
    obtain ⟨eh, y⟩ := y
    subst eh
    have := y vs q2
    rw [e1] at this
    cases this
    exact ⟨F2, .same, e2⟩
theorem itOk_str {x : Str} : ItOk K ct F (x.cps.toList.map fun c => .str ⟨#[c]⟩) (Its x) := fun F2 H i s1 s2 => by
  refine ⟨fun e => by rw [e]; simp [Its], fun d e => ?_⟩
  rw [List.getElem?_map] at e
  obtain ⟨c, e1, e2⟩ := Option.map_eq_some_iff.mp e
  subst e2
  have e3 : x.cps[i]? = some c := by simpa using e1
  refine ⟨(Array.getElem?_eq_some_iff.mp e3).1, fun v H' y => ?_⟩
  obtain ⟨eh, c', e4, ev⟩ := y
  subst eh
  rw [e3] at e4
  cases e4
  exact ⟨F2, .same, rp_str.mpr ev⟩
def mIt (m : M D) : M (List D) := m.bind fun d => M.opt (dIt d)
theorem i_any {tg e : Expr} {m : M D} (h : EvE X S Γ e m) (hK : S.C.K = X.K := by rfl) : EvI X S Γ tg e (mIt m) := pi_imp (pi_any h) fun σ H R q => by
  refine (Tr.bind (R1 := rD S) rI_late q).mono fun v H1 ⟨d, F1, r, q⟩ => ?_
  obtain ⟨ds, e1, hs, k⟩ := q.opt0
  have r : Rp S.C.K S.C.ct F1 d v := r
  have fin : ∀ {sd a}, v = .ref a → Sq S.C.K S.C.ct F1 ds sd a → (∃ sd a, v = .ref a ∧ (∃ xs, SqB X.K sd H1 a xs) ∧ R (Itq X.K sd a) H1) := fun {sd a} e h => by
    obtain ⟨vs, q1, q2⟩ := id h
    refine ⟨sd, a, e, ⟨vs, by rw [← hK]; exact same_sq hs q1⟩, ?_⟩
    rw [← hK]
    exact k _ (itOk_seq h)
  cases d <;> simp only [dIt] at e1 <;> try (cases e1; done)
  · cases e1
    exact .inr ⟨_, rp_str.mp r, k _ itOk_str⟩
  · cases e1; obtain ⟨a, e, h⟩ := sq_tup r; exact .inl (fin e h)
  · cases e1; obtain ⟨a, e, h⟩ := sq_lst r; exact .inl (fin e h)
  · cases e1; obtain ⟨a, e, h⟩ := sq_scr r; exact .inl (fin e h)
/-- range -/
def rngD (lo hi : Int) : List D := (List.range (hi - lo).toNat).map fun (k : Nat) => D.int (lo + k)
def dRng1 : List D → Option (List D)
  | [.int hi] => if -(2 ^ 62) ≤ hi ∧ hi < 2 ^ 62 then some (rngD 0 hi) else none
  | _ => none
def dRng2 : List D → Option (List D)
  | [.int lo, .int hi] => if -(2 ^ 62) ≤ lo ∧ lo < 2 ^ 62 ∧ -(2 ^ 62) ≤ hi ∧ hi < 2 ^ 62 then some (rngD lo hi) else none
  | _ => none
theorem itOk_rng {lo : Int} {n : Nat} : ItOk K ct F ((List.range n).map fun (k : Nat) => D.int (lo + k)) (Itr lo n) := fun F2 H i s1 s2 => by
  refine ⟨fun e => by rw [e]; simp [Itr], fun d e => ?_⟩
  rw [List.getElem?_map] at e
  obtain ⟨c, e1, e2⟩ := Option.map_eq_some_iff.mp e
  subst e2
  obtain ⟨hl, e3⟩ := List.getElem?_eq_some_iff.mp e1
  have hl' : i < n := by simpa using hl
  have e4 : c = i := by simpa using e3.symm
  subst e4
  refine ⟨hl', fun v H' y => ?_⟩
  obtain ⟨eh, ev⟩ := y
  subst eh
  exact ⟨F2, .same, rp_int.mpr ev⟩
theorem rpl_int1 {i : Int} {vs : List V} (r : RpL K ct F [.int i] vs) : vs = [.int i] := by
  obtain ⟨v, w, rfl, r1, r2⟩ := rpl_cons.mp r
  rw [rpl_nil.mp r2, rp_int.mp r1]
def mRg1 (m : M (List D)) : M (List D) := m.bind fun ds => M.opt (dRng1 ds)
def mRg2 (m : M (List D)) : M (List D) := m.bind fun ds => M.opt (dRng2 ds)
theorem rng1_inv {ds es : List D} (e : dRng1 ds = some es) : ∃ hi, ds = [.int hi] ∧ -(2 ^ 62) ≤ hi ∧ hi < 2 ^ 62 ∧ es = rngD 0 hi := by
  unfold dRng1 at e
  split at e
  · split at e
    · rename_i h; cases e; exact ⟨_, rfl, h.1, h.2, rfl⟩
    · cases e
  · cases e
theorem i_rng1 {tg a : Expr} {m : M (List D)} {p pos : Pos} (h : EvA X S Γ [a] m) (hm : X.mg "range" = none) (hg : Gl X "range" := by rfl) (hs : starEach [a] X.env = [(false, eval a X.env)] := by rfl) : EvI X S Γ tg (.Call (.Name "range" p) [a] [] pos) (mRg1 m) := pi_imp (pi_range1 hg hm h hs) fun σ H R q => by
  refine (Tr.bind (R1 := rL S) rI_late q).mono fun vs H1 ⟨ds, F1, r, q⟩ => ?_
  obtain ⟨es, e1, hs, k⟩ := q.opt0
  obtain ⟨hi, rfl, h1, h2, rfl⟩ := rng1_inv e1
  refine ⟨hi, rpl_int1 r, h1, h2, k _ ?_⟩
  unfold rngD
  rw [Int.sub_zero]
  exact itOk_rng
/-- enumerate -/
def enD (ds : List D) : List D := (List.range ds.length).zipWith (fun (k : Nat) d => D.tup [.int k, d]) ds
theorem enD_get {ds : List D} {i : Nat} {e : D} (h : (enD ds)[i]? = some e) : ∃ d, ds[i]? = some d ∧ e = .tup [.int i, d] := by
  unfold enD at h
  rw [List.getElem?_zipWith] at h
  cases e1 : ds[i]? with
  | none => rw [e1] at h; cases e2 : (List.range ds.length)[i]? <;> rw [e2] at h <;> cases h
  | some d =>
    have hl := (List.getElem?_eq_some_iff.mp e1).1
    rw [e1, List.getElem?_range hl] at h
    cases h
    exact ⟨d, rfl, rfl⟩
theorem itOk_en {ds : List D} {sd : Sd} {a : Addr} (h : Sq K ct F ds sd a) : ItOk K ct F (enD ds) (IteB K sd a) := fun F2 H i s1 s2 => by
  obtain ⟨vs, q, r⟩ := h
  have r2 := r.mono s1
  have q2 := same_sq (s1.trans s2) q
  refine ⟨fun e => ⟨vs, q2, by rw [e, ← r.length]; simp [enD]⟩, fun d e => ?_⟩
  obtain ⟨d0, e0, rfl⟩ := enD_get e
  obtain ⟨v, e1, e2⟩ := r2.get e0
  refine ⟨⟨vs, v, q2, e1⟩, fun x H' y => ?_⟩
  obtain ⟨T, x0, rfl, hT, rfl, y⟩ := y
  have := y vs q2
  rw [e1] at this
  cases this
  refine ⟨_, .new hT, rp_tup.mpr ⟨T, _, rfl, SqP.tup upd_same rfl, RpL.two (rp_int.mpr rfl) (e2.mono (same_updF (s2.free hT)))⟩⟩
def d1Sq : List D → Option (List D)
  | [d] => dSq d
  | _ => none
def mEn (m : M (List D)) : M (List D) := m.bind fun ds => M.opt ((d1Sq ds).map enD)
theorem i_en {e : Expr} {elts : List Expr} {kk : Nat} {m : M (List D)} {p pos tpos : Pos} (h : EvA X S Γ [e] m) (hm : X.mg "enumerate" = none) (hK : S.C.K = X.K := by rfl) (hg : Gl X "enumerate" := by rfl) (hs : starEach [e] X.env = [(false, eval e X.env)] := by rfl) :
    EvI X S Γ (.Tuple elts kk tpos) (.Call (.Name "enumerate" p) [e] [] pos) (mEn m) := pi_imp (pi_enumB hg hm h hs) fun σ H R q => by
  refine (Tr.bind (R1 := rL S) rI_late q).mono fun vs H1 ⟨ds, F1, r, q⟩ => ?_
  obtain ⟨es, e1, hs, k⟩ := q.opt0
  obtain ⟨ds1, e2, rfl⟩ := Option.map_eq_some_iff.mp e1
  cases ds with
  | nil => simp only [d1Sq] at e2; cases e2
  | cons d ds =>
    cases ds with
    | cons _ _ => simp only [d1Sq] at e2; cases e2
    | nil =>
      simp only [d1Sq] at e2
      obtain ⟨v, w, rfl, r1, r2⟩ := rpl_cons.mp r
      rw [rpl_nil.mp r2]
      obtain ⟨sd, a, rfl, q1⟩ := sq_of r1 e2
      obtain ⟨vs, q2, q3⟩ := id q1
      refine ⟨sd, a, vs, rfl, by rw [← hK]; exact same_sq hs q2, ?_⟩
      rw [← hK]
      exact k _ (itOk_en q1)
/-- zip -/
def zpD (ds es : List D) : List D := ds.zipWith (fun d e => D.tup [d, e]) es
def dZp : List D → Option (List D)
  | [a, b] => match dSq a, dSq b with
    | some ds, some es => some (zpD ds es)
    | _, _ => none
  | _ => none
def mZp (m : M (List D)) : M (List D) := m.bind fun ds => M.opt (dZp ds)
end
/-! ### for, while -/
section
variable {X : Cx} {S : Sg} {Γ Γ' : List Kd} {pos : Pos}
def forL (g : MG) (b : MS) : List D → MS
  | [] => mNx
  | d :: ds => fun ρ => match g d ρ with
    | none => .no
    | some ρ1 => match b ρ1 with
      | .nx ρ2 => forL g b ds ρ2
      | .ct ρ2 => forL g b ds ρ2
      | .bk ρ2 => .nx ρ2
      | r => r
def mFor (it : M (List D)) (g : MG) (b : MS) : MS := .of it fun ds => forL g b ds
abbrev Sg.lp (S : Sg) (Γ : List Kd) : Sg := { S with gc := Γ, gb := Γ }
theorem s_for {tg iter : Expr} {body : List Stmt} {m : M (List D)} {g : MG} {b : MS} {Γ1 : List Kd} {is : List Nat} (hp : PassesOwn (model X.prog X.w) X.A X.env X.xe) (hc : X.calm = true) (hi : EvI X S Γ tg iter m) (hg : EvG X (S.lp Γ) Γ Γ1 is tg g) (hb : EvSs X (S.lp Γ) Γ1 Γ body b)
    (hs : ∀ x, foldedSetIterable iter X.env x = pure x := by intro _; rfl) : EvS X S Γ Γ (.For tg iter body [] pos) (mFor m g b) := ps_imp (ps_for hp hc hi hg hb hs) fun D σ H h => by
  obtain ⟨F, ρ, rs, h⟩ := h
  refine ⟨F, (TsF.of (R := rI S) rs h).mono fun J H1 ⟨ds, F1, ρ1, q, _, rs1, h⟩ => ?_⟩
  refine ⟨fun i m σ H => ∃ F2 ρ2, Same F1 F2 ∧ RS S.C Γ F2 ρ2 σ H ∧ i ≤ ds.length ∧ m = ds.length - i ∧ TsF S Γ F2 D (forL g b (ds.drop i) ρ2), ⟨ds.length, F1, ρ1, Same.refl _, rs1, Nat.zero_le _, by simp, by simpa using h⟩, ?_⟩
  rintro i m σ H ⟨F2, ρ2, sm, rs2, hle, rfl, h⟩
  have it := q F2 H i sm rs2.sub
  by_cases hlt : i < ds.length
  · refine .inr ?_
    have hd : ds[i]? = some ds[i] := List.getElem?_eq_getElem hlt
    obtain ⟨go, yl⟩ := it.2 _ hd
    refine ⟨go, fun σ' H' => ∃ F3 ρ3, Same F2 F3 ∧ RS S.C Γ F3 ρ3 σ' H' ∧ TsF S Γ F3 D (forL g b (ds.drop (i + 1)) ρ3), fun σ' H' ⟨F3, ρ3, s3, rs3, h3⟩ => ⟨ds.length - (i + 1), by omega, F3, ρ3, sm.trans s3, rs3, hlt, rfl, h3⟩, fun x H' y => ?_⟩
    obtain ⟨F3, gw, rp⟩ := yl x H' y
    have rs3 : RS S.C Γ F3 ρ2 σ H' ∧ Same F2 F3 := by
      cases gw with
      | same => exact ⟨rs2, Same.refl _⟩
      | new hp => exact ⟨rs2.newF hp, same_updF (rs2.sub.free hp)⟩
    rw [List.drop_eq_getElem_cons hlt] at h
    unfold forL at h
    cases e : g ds[i] ρ2 with
    | none => rw [e] at h; exact h.elim
    | some ρ3 =>
      rw [e] at h
      refine ⟨F3, ρ2, ds[i], ρ3, rs3.1, rp, e, fun σ' _ rs4 => ⟨F3, ρ3, rs4, ?_⟩⟩
      have h : TsF S Γ F3 D (match b ρ3 with
        | .nx ρ2 => forL g b (ds.drop (i + 1)) ρ2
        | .ct ρ2 => forL g b (ds.drop (i + 1)) ρ2
        | .bk ρ2 => .nx ρ2
        | r => r) := TsF.late rs3.2 h
      cases e2 : b ρ3 with
      | nx ρ4 =>
        rw [e2] at h
        exact fun σ4 F4 H4 s4 rs4 => ⟨F4, ρ4, rs3.2.trans s4, rs4, h.late s4⟩
      | ct ρ4 =>
        rw [e2] at h
        exact fun σ4 F4 H4 s4 rs4 => ⟨F4, ρ4, rs3.2.trans s4, rs4, h.late s4⟩
      | bk ρ4 => rw [e2] at h; exact h
      | rt d ρ4 => rw [e2] at h; exact h
      | er x ρ4 => rw [e2] at h; exact h
      | no => rw [e2] at h; exact h
  · have e : i = ds.length := by omega
    refine .inl ⟨it.1 e, ?_⟩
    subst e
    rw [List.drop_length] at h
    exact h σ F2 H (Same.refl _) rs2
/-- while: n turns at most -/
def whL (c : M Bool) (b : MS) : Nat → MS
  | 0 => fun _ => .no
  | n + 1 => .of c fun k => if k = true then (fun ρ => match b ρ with
      | .nx ρ2 => whL c b n ρ2
      | .ct ρ2 => whL c b n ρ2
      | .bk ρ2 => .nx ρ2
      | r => r) else mNx
open Classical in
noncomputable def mWh (c : M Bool) (b : MS) : MS := fun ρ => if h : ∃ n, whL c b n ρ ≠ .no then whL c b (choose h) ρ else .no
theorem whL_mono {c : M Bool} {b : MS} : ∀ {n : Nat} {ρ : Env}, whL c b n ρ ≠ .no → ∀ k, whL c b (n + k) ρ = whL c b n ρ
  | 0, ρ, h, k => absurd rfl h
  | n + 1, ρ, h, k => by
    rw [Nat.add_right_comm]
    unfold whL at h ⊢
    unfold MS.of at h ⊢
    cases e : c ρ with
    | no => rfl
    | er x ρ' => rfl
    | ok t ρ' =>
      rw [e] at h
      cases t with
      | false => rfl
      | true =>
        show (match b ρ' with
          | .nx ρ2 => whL c b (n + k) ρ2
          | .ct ρ2 => whL c b (n + k) ρ2
          | .bk ρ2 => .nx ρ2
          | r => r) = (match b ρ' with
          | .nx ρ2 => whL c b n ρ2
          | .ct ρ2 => whL c b n ρ2
          | .bk ρ2 => .nx ρ2
          | r => r)
        have h : (match b ρ' with
          | .nx ρ2 => whL c b n ρ2
          | .ct ρ2 => whL c b n ρ2
          | .bk ρ2 => .nx ρ2
          | r => r) ≠ .no := h
        cases e2 : b ρ' with
        | nx ρ2 => rw [e2] at h; exact whL_mono h k
        | ct ρ2 => rw [e2] at h; exact whL_mono h k
        | bk ρ2 => rfl
        | rt d ρ2 => rfl
        | er x ρ2 => rfl
        | no => rfl
end
end G
/-! G9: list comprehensions. -/
namespace G
open PySem PySem.Spec PyProof.Rows L2
/-! ### a block's own slots -/
def wpE (ρ : Env) : List Nat → Env
  | [] => ρ
  | v :: vs => (wpE ρ vs).set v none
def rsE (ρ ρ0 : Env) : List Nat → Env
  | [] => ρ
  | v :: vs => (rsE ρ ρ0 vs).set v (ρ0[v]?.getD none)
theorem wpE_len (ρ : Env) : ∀ vs, (wpE ρ vs).length = ρ.length
  | [] => rfl
  | v :: vs => by unfold wpE; rw [List.length_set, wpE_len]
theorem rsE_len (ρ ρ0 : Env) : ∀ vs, (rsE ρ ρ0 vs).length = ρ.length
  | [] => rfl
  | v :: vs => by unfold rsE; rw [List.length_set, rsE_len]
theorem wpE_out {ρ : Env} {i : Nat} : ∀ {vs : List Nat}, i ∉ vs → (wpE ρ vs)[i]? = ρ[i]?
  | [], _ => rfl
  | v :: vs, h => by
    unfold wpE
    rw [List.getElem?_set_ne (fun e => h (by rw [e]; exact List.mem_cons_self))]
    exact wpE_out fun z => h (List.mem_cons_of_mem _ z)
theorem wpE_in {ρ : Env} {i : Nat} (hi : i < ρ.length) : ∀ {vs : List Nat}, i ∈ vs → (wpE ρ vs)[i]? = some none
  | [], h => by simp at h
  | v :: vs, h => by
    unfold wpE
    by_cases z : v = i
    · subst z
      exact List.getElem?_set_self (by rw [wpE_len]; exact hi)
    · rw [List.getElem?_set_ne z]
      exact wpE_in hi ((List.mem_cons.mp h).resolve_left fun e => z e.symm)
theorem rsE_out {ρ ρ0 : Env} {i : Nat} : ∀ {vs : List Nat}, i ∉ vs → (rsE ρ ρ0 vs)[i]? = ρ[i]?
  | [], _ => rfl
  | v :: vs, h => by
    unfold rsE
    rw [List.getElem?_set_ne (fun e => h (by rw [e]; exact List.mem_cons_self))]
    exact rsE_out fun z => h (List.mem_cons_of_mem _ z)
theorem rsE_in {ρ ρ0 : Env} {i : Nat} (hi : i < ρ.length) (h0 : i < ρ0.length) : ∀ {vs : List Nat}, i ∈ vs → (rsE ρ ρ0 vs)[i]? = ρ0[i]?
  | [], h => by simp at h
  | v :: vs, h => by
    unfold rsE
    by_cases z : v = i
    · subst z
      rw [List.getElem?_set_self (by rw [rsE_len]; exact hi), List.getElem?_eq_getElem h0]
      rfl
    · rw [List.getElem?_set_ne z]
      exact rsE_in hi h0 ((List.mem_cons.mp h).resolve_left fun e => z e.symm)
theorem wp_out {σ : L2.St} {i : Nat} : ∀ {vs : List Nat}, i ∉ vs → (wipe σ vs)[i]? = σ[i]?
  | [], _ => rfl
  | v :: vs, h => by
    unfold wipe
    rw [List.getElem?_set_ne (fun e => h (by rw [e]; exact List.mem_cons_self))]
    exact wp_out fun z => h (List.mem_cons_of_mem _ z)
theorem wp_in {σ : L2.St} {i : Nat} (hi : i < σ.length) : ∀ {vs : List Nat}, i ∈ vs → (wipe σ vs)[i]? = some none
  | [], h => by simp at h
  | v :: vs, h => by
    unfold wipe
    by_cases z : v = i
    · subst z
      exact List.getElem?_set_self (by rw [wipe_length]; exact hi)
    · rw [List.getElem?_set_ne z]
      exact wp_in hi ((List.mem_cons.mp h).resolve_left fun e => z e.symm)
/-- a block's own slots are frozen data's -/
def fzAll (Γ : List Kd) (vs : List Nat) : Bool := vs.all fun v => decide (Γ[v]? = some .fz)
theorem fzAll_of {Γ : List Kd} {vs : List Nat} (h : fzAll Γ vs = true) {v : Nat} (hv : v ∈ vs) : Γ[v]? = some .fz := by
  unfold fzAll at h
  rw [List.all_eq_true] at h
  simpa using h v hv
section
variable {C : Fx} {Γ : List Kd} {F F' H H' : Hp} {ρ ρ' : Env} {σ : L2.St} {vs : List Nat}
theorem ow1_wipe (h : fzAll Γ vs = true) {i : Nat} {a : Addr} : Ow1 Γ (wipe σ vs) i a ↔ Ow1 Γ σ i a := by
  unfold Ow1
  refine and_congr_right fun hk => ?_
  have hi : i ∉ vs := fun z => by
    have := fzAll_of h z
    rw [this] at hk
    rcases hk with hk | hk <;> cases hk
  rw [wp_out hi]
theorem own_wipe (h : fzAll Γ vs = true) {a : Addr} : Own Γ (wipe σ vs) a ↔ Own Γ σ a := exists_congr fun _ => ow1_wipe h
theorem io_out (h : fzAll Γ vs = true) {i : Nat} {k : Kd} (hk : Γ[i]? = some k) (hn : k ≠ .fz) : i ∉ vs := fun z => by
  have := fzAll_of h z
  rw [this] at hk
  cases hk
  exact hn rfl
theorem RS.wipe (r : RS C Γ F ρ σ H) (h : fzAll Γ vs = true) : RS C Γ F (wpE ρ vs) (wipe σ vs) H where
  sub := r.sub
  ext := r.ext
  ln := by rw [wpE_len, wipe_length, r.ln]
  lg := by rw [wipe_length, r.lg]
  no := fun i hi => by
    have hl : i < ρ.length := by have := (List.getElem?_eq_some_iff.mp hi).1; rwa [wpE_len] at this
    by_cases z : i ∈ vs
    · exact wp_in (by rw [← r.ln]; exact hl) z
    · rw [wpE_out z] at hi
      rw [wp_out z]
      exact r.no i hi
  fz := fun i d h1 h2 => by
    have hl : i < ρ.length := by have := (List.getElem?_eq_some_iff.mp h2).1; rwa [wpE_len] at this
    by_cases z : i ∈ vs
    · rw [wpE_in hl z] at h2; cases h2
    · rw [wpE_out z] at h2
      rw [wp_out z]
      exact r.fz i d h1 h2
  ow := fun i d k h1 h2 h3 => by
    have z := io_out h h1 h2
    rw [wpE_out z] at h3
    rw [wp_out z]
    exact r.ow i d k h1 h2 h3
  dj := fun i j a h1 h2 => r.dj i j a ((ow1_wipe h).mp h1) ((ow1_wipe h).mp h2)
  hio := fun p hp => by
    obtain ⟨h1, h2, h3⟩ := r.hio p hp
    have z := io_out h h1 (by decide)
    rw [wp_out z, wpE_out z]
    exact ⟨h1, h2, h3⟩
theorem RS.back (r0 : RS C Γ F ρ σ H) (sm : Same F F') (r : RS C Γ F' (wpE ρ' vs) (L2.wipe σ vs) H') (h : fzAll Γ vs = true) : RS C Γ F' (rsE ρ' ρ vs) σ H' where
  sub := r.sub
  ext := r.ext
  ln := by have := r.ln; rw [wpE_len, wipe_length] at this; rw [rsE_len, this]
  lg := r0.lg
  no := fun i hi => by
    have hl : i < ρ'.length := by have := (List.getElem?_eq_some_iff.mp hi).1; rwa [rsE_len] at this
    by_cases z : i ∈ vs
    · have hl0 : i < ρ.length := by have := r.ln; rw [wpE_len, wipe_length] at this; rw [r0.ln, ← this]; exact hl
      rw [rsE_in hl hl0 z] at hi
      exact r0.no i hi
    · rw [rsE_out z] at hi
      have := r.no i (by rw [wpE_out z]; exact hi)
      rwa [wp_out z] at this
  fz := fun i d h1 h2 => by
    have hl : i < ρ'.length := by have := (List.getElem?_eq_some_iff.mp h2).1; rwa [rsE_len] at this
    by_cases z : i ∈ vs
    · have hl0 : i < ρ.length := by have := r.ln; rw [wpE_len, wipe_length] at this; rw [r0.ln, ← this]; exact hl
      rw [rsE_in hl hl0 z] at h2
      obtain ⟨u, e1, e2⟩ := r0.fz i d h1 h2
      exact ⟨u, e1, e2.mono sm⟩
    · rw [rsE_out z] at h2
      obtain ⟨u, e1, e2⟩ := r.fz i d h1 (by rw [wpE_out z]; exact h2)
      rw [wp_out z] at e1
      exact ⟨u, e1, e2⟩
  ow := fun i d k h1 h2 h3 => by
    have z := io_out h h1 h2
    rw [rsE_out z] at h3
    obtain ⟨a, o, e1, e2⟩ := r.ow i d k h1 h2 (by rw [wpE_out z]; exact h3)
    rw [wp_out z] at e1
    exact ⟨a, o, e1, e2⟩
  dj := r0.dj
  hio := fun p hp => by
    obtain ⟨h1, h2, h3⟩ := r.hio p hp
    have z := io_out h h1 (by decide)
    rw [wp_out z] at h2
    rw [wpE_out z] at h3
    rw [rsE_out z]
    exact ⟨h1, h2, h3⟩
/-- a nobody's object, not there at the entry, is written -/
theorem RS.wrNew (r : RS C Γ F ρ σ H) {p : Addr} {o : HO} (h0 : C.H0 p = none) (hp : H p ≠ none) (hf : F p = none) (nO : ¬ Own Γ σ p) : RS C Γ F ρ σ (upd H p o) where
  sub := same_updH r.sub hf
  ext := ⟨r.ext.f, r.ext.g, fun b x e hb => by
    have nb : b ≠ p := ne_of_none e h0
    rw [upd_ne nb]; exact r.ext.h b x e hb, fun b hb => by
    by_cases z : b = p
    · subst z; rw [upd_same]; simp
    · rw [upd_ne z]; exact r.ext.n b hb⟩
  ln := r.ln
  lg := r.lg
  no := r.no
  fz := r.fz
  ow := fun j d k k1 k2 k3 => by
    obtain ⟨a, o', z1, z2, z3, z4⟩ := r.ow j d k k1 k2 k3
    have ne : a ≠ p := fun z => by
      subst z
      refine nO ⟨j, ?_, z1⟩
      cases k with
      | fz => exact absurd rfl k2
      | ow => exact .inl k1
      | io => exact .inr k1
    exact ⟨a, o', z1, z2, by rw [upd_ne ne]; exact z3, z4⟩
  dj := r.dj
  hio := r.hio
end
/-! ### one clause -/
def lcT (vs : List Nat) (g : MG) (t : M Bool) (e : M D) (d : D) : M (Option D) := fun ρ => match g d (wpE ρ vs) with
  | none => .no
  | some ρ1 => match t ρ1 with
    | .ok b ρ2 => if b = true then (match e ρ2 with
        | .ok y ρ3 => .ok (some y) ρ3
        | _ => .no) else .ok none ρ2
    | _ => .no
def lcG (vs : List Nat) (g : MG) (t : M Bool) (e : M D) : List D → List D → M (List D)
  | acc, [] => M.ret acc
  | acc, d :: ds => fun ρ => match lcT vs g t e d ρ with
    | .ok (some y) ρ' => if acc.length < sizeLine then lcG vs g t e (acc ++ [y]) ds ρ' else .no
    | .ok none ρ' => lcG vs g t e acc ds ρ'
    | _ => .no
def lcA (vs : List Nat) (g : MG) (t : M Bool) (e : M D) (ds : List D) : M D := fun ρ => match lcG vs g t e [] ds ρ with
  | .ok r ρ' => .ok (.lst r) (rsE ρ' ρ vs)
  | _ => .no
theorem lcT_inv {vs : List Nat} {g : MG} {t : M Bool} {e : M D} {d : D} {ρ ρ' : Env} {r : Option D} (h : lcT vs g t e d ρ = .ok r ρ') :
    ∃ ρ1 b ρ2, g d (wpE ρ vs) = some ρ1 ∧ t ρ1 = .ok b ρ2 ∧ ((b = false ∧ r = none ∧ ρ' = ρ2) ∨ (b = true ∧ ∃ y, e ρ2 = .ok y ρ' ∧ r = some y)) := by
  unfold lcT at h
  cases e1 : g d (wpE ρ vs) with
  | none => simp only [e1] at h; cases h
  | some ρ1 =>
    simp only [e1] at h
    cases e2 : t ρ1 with
    | no => simp only [e2] at h; cases h
    | er x ρ2 => simp only [e2] at h; cases h
    | ok b ρ2 =>
      simp only [e2] at h
      cases b with
      | false => simp only [Bool.false_eq_true, if_false] at h; cases h; exact ⟨ρ1, _, _, rfl, e2, .inl ⟨rfl, rfl, rfl⟩⟩
      | true =>
        simp only [if_true] at h
        cases e3 : e ρ2 with
        | no => simp only [e3] at h; cases h
        | er x ρ3 => simp only [e3] at h; cases h
        | ok y ρ3 => simp only [e3] at h; cases h; exact ⟨ρ1, _, _, rfl, e2, .inr ⟨rfl, y, e3, rfl⟩⟩
theorem lcG_inv {vs : List Nat} {g : MG} {t : M Bool} {e : M D} {d : D} {acc ds : List D} {ρ ρe : Env} {r : List D} (h : lcG vs g t e acc (d :: ds) ρ = .ok r ρe) :
    ∃ z ρ', lcT vs g t e d ρ = .ok z ρ' ∧ (z = none → lcG vs g t e acc ds ρ' = .ok r ρe) ∧ (∀ y, z = some y → acc.length < sizeLine ∧ lcG vs g t e (acc ++ [y]) ds ρ' = .ok r ρe) := by
  unfold lcG at h
  cases e1 : lcT vs g t e d ρ with
  | no => simp only [e1] at h; cases h
  | er x ρ' => simp only [e1] at h; cases h
  | ok z ρ' =>
    simp only [e1] at h
    refine ⟨z, ρ', rfl, fun ez => by subst ez; exact h, fun y ey => ?_⟩
    subst ey
    simp only at h
    split at h
    · rename_i hz; exact ⟨hz, h⟩
    · cases h
def mLc (vs : List Nat) (it : M (List D)) (g : MG) (t : M Bool) (e : M D) : M D := it.bind fun ds => lcA vs g t e ds
def mYes : M Bool := M.ret true
def EvTs (X : Cx) (S : Sg) (Γ : List Kd) (ifs : List Expr) (m : M Bool) : Prop := PTs X ifs (Tr S Γ rB m)
theorem pts_imp {X : Cx} {e : List Expr} {t t' : TT} (h : PTs X e t) (k : ∀ σ H Q, t' σ H Q → t σ H Q) : PTs X e t' := ⟨fun pins s σ H Q I q => h.run pins s σ H Q I (k _ _ _ q)⟩
theorem ts_nil {X : Cx} {S : Sg} {Γ : List Kd} : EvTs X S Γ [] mYes := pts_imp pts_nil fun σ H Q ⟨F, h⟩ => h.ret0 rfl
/-- within a block nothing leaves -/
abbrev Sg.bk (S : Sg) : Sg := { S with W := fun _ _ _ _ => False, ge := none }
theorem wipe_only {is vs : List Nat} {σ σ' : L2.St} (h : OnlyS is σ σ') (hi : ∀ i ∈ is, i ∈ vs) : wipe σ' vs = wipe σ vs := by
  refine List.ext_getElem? fun i => ?_
  by_cases z : i ∈ vs
  · by_cases hl : i < σ.length
    · rw [wp_in (by rw [h.1]; exact hl) z, wp_in hl z]
    · rw [List.getElem?_eq_none (by rw [wipe_length, h.1]; omega), List.getElem?_eq_none (by rw [wipe_length]; omega)]
  · rw [wp_out z, wp_out z]
    exact h.2 i fun y => z (hi i y)
theorem only_wipe {vs : List Nat} {σ : L2.St} : OnlyS vs σ (wipe σ vs) := ⟨wipe_length _ _, fun i hi => wp_out hi⟩
theorem tr_lc {S : Sg} {Γ : List Kd} {vs is : List Nat} {g : MG} {t : M Bool} {e : M D} {m : M (List D)} (hv : fzAll Γ vs = true) (hi : ∀ i ∈ is, i ∈ vs) {σ : L2.St} {H : Hp} {Q : VK} (h : Tr S Γ (rO S) (mLc vs m g t e) σ H Q) :
    tLc (Tr S Γ (rI S) m) (TgT S.bk Γ Γ is g) (Tr S.bk Γ rB t) (Tr S.bk Γ (rD S.bk) e) vs σ H Q := by
  obtain ⟨F, h⟩ := h
  refine ⟨F, (TrF.bind (R1 := rI S) rO_late h).mono fun J H1 ⟨ds, F1, q, x1, h⟩ => ?_⟩
  intro L hL
  obtain ⟨ρ1, rs1, h⟩ := h
  have hF1 : F1 L = none := rs1.sub.free hL
  cases eg : lcG vs g t e [] ds ρ1 with
  | no => unfold lcA at h; rw [eg] at h; exact h.elim
  | er x ρ' => unfold lcA at h; rw [eg] at h; exact h.elim
  | ok r ρe =>
    have h : ∀ v F' H', RS S.C Γ F' (rsE ρe ρ1 vs) σ H' → Ext (Own Γ σ) F1 H1 F' H' → rO S H1 F' H' (.lst r) v → Q v H' := by
      have h2 := h
      unfold lcA at h2
      rw [eg] at h2
      exact h2
    refine ⟨fun i m H => ∃ F2 ρ2 acc av, Same F1 F2 ∧ RS S.C Γ F2 (wpE ρ2 vs) (wipe σ vs) H ∧ Ext (fun b => Own Γ σ b ∨ b = L) F1 (upd H1 L (.lst [])) F2 H ∧ H L = some (.lst av) ∧ F2 L = none ∧ RpL S.C.K S.C.ct F2 acc av ∧ i ≤ ds.length ∧ m = ds.length - i ∧ lcG vs g t e acc (ds.drop i) ρ2 = .ok r ρe,
      ⟨ds.length, F1, ρ1, [], [], Same.refl _, (rs1.newH hL).wipe hv, Ext.refl, upd_same, hF1, rpl_nil.mpr rfl, Nat.zero_le _, by simp, by simpa using eg⟩, ?_⟩
    rintro i m H ⟨F2, ρ2, acc, av, sm, rs2, x2, hl, hF2, ra, hle, rfl, eq⟩
    have it := q F2 H i sm rs2.sub
    have nO : ¬ Own Γ σ L := fun z => by
      obtain ⟨_, o, e⟩ := rs1.own_some z
      rw [hL] at e; cases e
    by_cases hlt : i < ds.length
    · refine .inr ?_
      have hd : ds[i]? = some ds[i] := List.getElem?_eq_getElem hlt
      obtain ⟨go, yl⟩ := it.2 _ hd
      rw [List.drop_eq_getElem_cons hlt] at eq
      obtain ⟨z, ρ9, eT, zn, zs⟩ := lcG_inv eq
      obtain ⟨ρ3, b, ρ4, e1, e2, e3⟩ := lcT_inv eT
      refine ⟨go, fun H' => ∃ F3 ρ3 acc' av', Same F2 F3 ∧ RS S.C Γ F3 (wpE ρ3 vs) (wipe σ vs) H' ∧ Ext (fun b => Own Γ σ b ∨ b = L) F2 H F3 H' ∧ H' L = some (.lst av') ∧ F3 L = none ∧ RpL S.C.K S.C.ct F3 acc' av' ∧ lcG vs g t e acc' (ds.drop (i + 1)) ρ3 = .ok r ρe,
        fun H' ⟨F3, ρ3, acc', av', s3, rs3, x3, hl3, hF3, ra3, e3⟩ => ⟨ds.length - (i + 1), by omega, F3, ρ3, acc', av', sm.trans s3, rs3, x2.trans x3, hl3, hF3, ra3, hlt, rfl, e3⟩, fun x H' y => ?_⟩
      obtain ⟨F3, gw, rp⟩ := yl x H' y
      have st3 : RS S.C Γ F3 (wpE ρ2 vs) (wipe σ vs) H' ∧ Ext (fun b => Own Γ σ b ∨ b = L) F2 H F3 H' ∧ H' L = some (.lst av) ∧ F3 L = none := by
        cases gw with
        | same => exact ⟨rs2, Ext.refl, hl, hF2⟩
        | new hp =>
          have np : L ≠ _ := ne_of_none hl hp
          exact ⟨rs2.newF hp, Ext.newF rs2.sub hp, by rw [upd_ne np]; exact hl, by rw [upd_ne np]; exact hF2⟩
      obtain ⟨rs3, x3, hl3, hF3⟩ := st3
      refine ⟨F3, wpE ρ2 vs, ds[i], ρ3, rs3, rp, e1, fun σ3 o3 rs4 => ?_⟩
      have w3 : wipe σ3 vs = wipe σ vs := (wipe_only o3 hi).trans (wipe_only only_wipe fun _ z => z)
      refine ⟨w3, F3, ρ3, rs4, ?_⟩
      have own3 : ∀ {b}, Own Γ σ3 b → Own Γ σ b := fun {b} z => by
        have z1 := (own_wipe (vs := vs) hv).mpr z
        rw [w3] at z1
        exact (own_wipe hv).mp z1
      have back : ∀ {F4 ρ4 H4}, RS S.C Γ F4 ρ4 σ3 H4 → RS S.C Γ F4 (wpE ρ4 vs) (wipe σ vs) H4 := fun {F4 ρ4 H4} z => by
        have := z.wipe (vs := vs) hv
        rwa [w3] at this
      have free : ∀ {F4 H4 F5 H5}, Ext (Own Γ σ3) F4 H4 F5 H5 → H4 L = some (.lst av) → F4 L = none → Ext (fun b => Own Γ σ b ∨ b = L) F4 H4 F5 H5 ∧ H5 L = some (.lst av) ∧ F5 L = none := fun {F4 H4 F5 H5} x4 q1 q2 => by
        refine ⟨x4.sub fun c z => .inl (.inl (own3 z)), x4.h L _ q1 fun z => nO (own3 z), ?_⟩
        cases ef : F5 L with
        | none => rfl
        | some o =>
          rcases x4.g L (by rw [ef]; simp) with z | z
          · exact absurd q2 z
          · rw [q1] at z; cases z
      rw [e2]
      intro v F4 H4 rs5 x4 qb
      cases (show b = v from qb)
      obtain ⟨x4', hl4, hF4⟩ := free x4 hl3 hF3
      rcases e3 with ⟨rfl, rfl, rfl⟩ | ⟨rfl, yy, e3, rfl⟩
      · exact iteF ⟨F4, ρ9, acc, av, x3.f.trans x4.f, back rs5, x3.trans x4', hl4, hF4, ra.mono (x3.f.trans x4.f), zn rfl⟩
      · refine iteT ⟨F4, ρ4, rs5, ?_⟩
        rw [e3]
        intro v F5 H5 rs6 x5 qd
        obtain ⟨x5', hl5, hF5⟩ := free x5 hl4 hF4
        obtain ⟨hz, eq2⟩ := zs yy rfl
        have ra5 := ra.mono ((x3.f.trans x4.f).trans x5.f)
        have h0 : S.C.H0 L = none := by
          cases e0 : S.C.H0 L with
          | none => rfl
          | some y => exact absurd hL (rs1.ext.n L (by rw [e0]; simp))
        exact ⟨av, hl5, by rw [← ra.length]; exact hz, F5, ρ9, acc ++ [yy], av ++ [v], (x3.f.trans x4.f).trans x5.f, (back rs6).wrNew h0 (by rw [hl5]; simp) hF5 (fun z => nO ((own_wipe hv).mp z)), (x3.trans (x4'.trans x5')).trans (Ext.wr (.inr rfl)), upd_same, hF5, ra5.append (.one qd), eq2⟩
    · have e0 : i = ds.length := by omega
      refine .inl ⟨it.1 e0, ?_⟩
      subst e0
      rw [List.drop_length] at eq
      unfold lcG at eq
      cases eq
      refine h _ F2 H (rs1.back sm rs2 hv) ?_ ⟨L, _, rfl, hL, hF2, hl, .lst ra⟩
      have y1 : Ext (fun b => Own Γ σ b ∨ b = L) F1 H1 F2 H := (Ext.newH hL).trans x2
      exact y1.sub fun c z => z.elim .inl fun z => .inr (by rw [z]; exact hL)
section
variable {X : Cx} {S : Sg} {Γ : List Kd} {pos : Pos}
theorem o_lc {elt tg iter : Expr} {ifs : List Expr} {scope : Scope} {own : List (Str × Nat)} {m : M (List D)} {g : MG} {t : M Bool} {e : M D} {is : List Nat} (hc : X.calm = true) (hN : X.N.Nodup) (hi : EvI X S Γ tg iter m) (ok : blkC X.N X.env.scope scope own = true)
    (hg : ∀ (s : Shared) (H : Hp) (C : Addr) (cl : List (Str × Addr)) (fp : List Addr), EvG (X.blk s H scope (compEnvC scope cl C X.env) fp) S.bk Γ Γ is tg g) (ht : ∀ (s : Shared) (H : Hp) (C : Addr) (cl : List (Str × Addr)) (fp : List Addr), EvTs (X.blk s H scope (compEnvC scope cl C X.env) fp) S.bk Γ ifs t)
    (he : ∀ (s : Shared) (H : Hp) (C : Addr) (cl : List (Str × Addr)) (fp : List Addr), EvE (X.blk s H scope (compEnvC scope cl C X.env) fp) S.bk Γ elt e) (hv : fzAll Γ (own.map (·.2)) = true := by rfl) (hI : ∀ i ∈ is, i ∈ own.map (·.2) := by decide) (hs : ∀ x, foldedSetIterable iter X.env x = pure x := by intro _; rfl) :
    EvO X S Γ (.ListComp elt [⟨tg, iter, ifs, 0⟩] scope pos) (mLc (own.map (·.2)) m g t e) :=
  pe_imp (pe_lc hc hN hi (blkOk_by ok) hg ht he hs) fun σ H Q h => tr_lc hv hI h
end
end G
/-! G10: functions: their promise by a mirror; the body keeps it; calls. -/
namespace G
open PySem PySem.Spec PyProof.Rows L2
/-- what leaves a def as an exception: one whose context is None (true), any -/
def CXn (cn : Bool) : Program → World → CXT := match cn with
  | true => L2N.CX
  | false => L2.CX
/-- who takes what leaves -/
def Tkn (cn : Bool) (X : Cx) (W : WX) : Prop := match cn with
  | true => L2N.Takes X W
  | false => L2.Takes X W
theorem passAtn {cn : Bool} {X : Cx} {W : WX} (tk : Tkn cn X W) (σ : L2.St) : PassesAt (CXn cn X.prog X.w) X σ (WE W σ) := by
  cases cn with
  | true => exact L2N.passAt tk σ
  | false => exact L2.passAt tk σ
theorem no_cx {cn : Bool} {P : Program} {w : World} {outer : List PySem.Env} {H : Hp} {s : Shared} {E : XK} {u : Value} {s' : Shared} (h : CXn cn P w outer H s E u s') (hE : ∀ c d H, ¬ E c d H) : False := by
  cases cn with
  | true =>
    obtain ⟨_, _, _, _, _, _, _, _, _, _, _, _, z⟩ := (show L2N.CX P w outer H s E u s' from h)
    exact hE _ _ _ z
  | false =>
    obtain ⟨_, _, _, _, _, _, _, _, _, _, _, _, z⟩ := (show L2.CX P w outer H s E u s' from h)
    exact hE _ _ _ z
/-- what a call gives: a result and the objects handed in to be changed, as they stand behind it -/
inductive FR where
  | ok (d : D) (outs : List D) | er (x : Ex) (outs : List D) | no
abbrev MFn := List D → FR
/-! ### how arguments lie -/
def ArL (K : Frag) (ct : Ct) (F H : Hp) : List Kd → List D → List V → Prop
  | [], ds, vs => ds = [] ∧ vs = []
  | .fz :: ks, ds, vs => ∃ d ds' v vs', ds = d :: ds' ∧ vs = v :: vs' ∧ Rp K ct F d v ∧ ArL K ct F H ks ds' vs'
  | _ :: ks, ds, vs => ∃ d ds' a vs' o, ds = d :: ds' ∧ vs = .ref a :: vs' ∧ F a = none ∧ H a = some o ∧ OwO K ct F d o ∧ ArL K ct F H ks ds' vs'
def ioA : List Kd → List V → List Addr
  | .fz :: ks, _ :: vs => ioA ks vs
  | _ :: ks, .ref a :: vs => a :: ioA ks vs
  | _, _ => []
def OutOk (K : Frag) (ct : Ct) (F H : Hp) (outs : List D) (as : List Addr) : Prop := Paired (fun d a => F a = none ∧ ∃ o, H a = some o ∧ OwO K ct F d o) outs as
/-- what a call's result is, H the heap at its start -/
def RtC (K : Frag) (ct : Ct) (ro : Bool) (H F' H' : Hp) (d : D) (v : V) : Prop := if ro = true then RtO K ct H F' H' d v else Rp K ct F' d v
/-- the promise -/
def SpG (K : Frag) (ct : Ct) (ks : List Kd) (ro : Bool) (MF : MFn) : Sp := fun vs H Q E => ∃ F ds, Same F H ∧ ArL K ct F H ks ds vs ∧ (ioA ks vs).Nodup ∧ match MF ds with
  | .ok d outs => ∀ v F' H', Ext (fun a => a ∈ ioA ks vs) F H F' H' → Same F' H' → RtC K ct ro H F' H' d v → OutOk K ct F' H' outs (ioA ks vs) → Q v H'
  | .er x outs => ∀ cl dx F' H', Ext (fun a => a ∈ ioA ks vs) F H F' H' → Same F' H' → RX K ct F' H' x cl dx → OutOk K ct F' H' outs (ioA ks vs) → E cl dx H'
  | .no => False
theorem ArL.len {K : Frag} {ct : Ct} {F H : Hp} : ∀ {ks : List Kd} {ds : List D} {vs : List V}, ArL K ct F H ks ds vs → ds.length = ks.length ∧ vs.length = ks.length
  | [], ds, vs, h => by obtain ⟨rfl, rfl⟩ := h; exact ⟨rfl, rfl⟩
  | .fz :: ks, ds, vs, h => by obtain ⟨d, ds', v, vs', rfl, rfl, _, h⟩ := h; have := h.len; simp [this.1, this.2]
  | .ow :: ks, ds, vs, h => by obtain ⟨d, ds', v, vs', o, rfl, rfl, _, _, _, h⟩ := h; have := h.len; simp [this.1, this.2]
  | .io :: ks, ds, vs, h => by obtain ⟨d, ds', v, vs', o, rfl, rfl, _, _, _, h⟩ := h; have := h.len; simp [this.1, this.2]
/-- guards -/
structure FnG (P : Program) (w : World) (K : Frag) (mg : Str → Option Value) (base : Heap) (CX : CXT) (k : Nat) (f : Addr) (fd : FuncData) (ps : List Str) (sp : Sp) : Prop where
  len : ∀ vs H Q E, sp vs H Q E → vs.length = ps.length
  run : ∀ (A : Around) (outer : List PySem.Env) (s : Shared) (H : Hp) (args : Args) (us : List Value) (vs : List V) (Q : VK) (E : XK), A.guards = some [] → Room k A → Env0 P w K mg base A outer s H → BindsTo s fd args (ps.zip us) → Vals vs us → sp vs H Q E →
    codeAny (model P w) A (.call (.ref f) args) (CR CX outer P w H s Q E) s
theorem FnG.mono {P : Program} {w : World} {K : Frag} {mg : Str → Option Value} {base : Heap} {CX : CXT} {j k : Nat} {f : Addr} {fd : FuncData} {ps : List Str} {sp : Sp} (F : FnG P w K mg base CX j f fd ps sp) (h : j ≤ k) : FnG P w K mg base CX k f fd ps sp :=
  ⟨F.len, fun A outer s H args us vs Q E hg hr => F.run A outer s H args us vs Q E hg (hr.mono h)⟩
theorem deeper_guards {A : Around} (h : A.guards = some []) (e : PySem.Env) : (A.deeper e).guards = some [] := by
  first | exact h | (simp [Around.deeper, h]) | (unfold Around.deeper; exact h)
theorem make_guards {A : Around} (h : A.guards = some []) (C : Addr) (us : List Value) (kw : List (Str × Value)) : (A.under (.builtin "type.__call__" ⟨.ref C :: us, kw⟩)).guards = some [] := by
  simp [Around.under, h, Code.guards, Code.isGuard, pushGuards, guardIds]
/-- THE RULE: a def of the text, by its body -/
theorem fn_any {CX : CXT} {P : Program} {w : World} {K : Frag} {mg : Str → Option Value} {base : Heap} {k : Nat} {f : Addr} {x qual : Str} {params : Arguments} {body : List Stmt} {scope : Scope} {dvs : List V} {kws : List (Str × V)} {fd : FuncData}
    {N ps : List Str} {sp : Sp} (Fd : FunD K x qual params body scope dvs kws f fd) (S : FnScope N ps scope) (len : ∀ vs H Q E, sp vs H Q E → vs.length = ps.length)
    (hbody : ∀ (cdv : Value) (A : Around) (outer : List PySem.Env) (s : Shared) (H : Hp) (vs : List V) (Q : VK) (E : XK), A.guards = some [] → Room k (A.deeper (envOfC qual scope s.heap.objs.size f cdv)) → sp vs H Q E →
      ∃ t, PSs (cxOf CX P w K mg base N qual scope f cdv A outer s H E) body t ∧ t { nx := fun _ H' => Q .non H', rt := Q } (start N vs) H) :
    FnG P w K mg base CX (k + 1) f fd ps sp := by
  obtain ⟨oc, od, dV, kV, doc, pm, an, cdv, ct, osl, rfl, lk, hcd, _, _⟩ := Fd.ex
  refine ⟨len, fun A outer s H args us vs Q E hgd hr e0 hb r hsp => ?_⟩
  have hl := len _ _ _ _ hsp
  have KX : K.In s.heap := e0.mod.kin.keeps fun b o e => (e0.bs b o e).1
  have lim : s.heap.NoLimit := e0.mod.nolimit.keeps fun b o e => (e0.bs b o e).1
  have hkind : ∀ y ∈ ps.zip us, scope.names.lookup y.1 = some .local ∨ (scope.names.lookup y.1 = some .cell ∧ ((cellsFrom (s.heap.objs.size + 1) scope.names []).lookup y.1).isSome = true) := fun ⟨n, v⟩ hy => by
    rcases S.par n (List.of_mem_zip hy).1 with q | q
    · exact .inl q
    · exact .inr ⟨q, PySem.W.cellsFrom_some _ _ _ (.inl q)⟩
  refine codeAny_call_function hr.depth (KX _ _ lk) rfl S.co S.gen rfl (PySem.W.codeRec_of KX hcd) (hb _ _ _ _ ?_)
  refine wpAny_newFunctionEnv_cells S.kind hkind fun env he s1 x => ?_
  subst he
  refine ⟨lim.keeps x.toInCall.keep, codeAny_func ?_⟩
  obtain ⟨t, ht, hq⟩ := hbody cdv A outer s H vs Q E hgd (hr.deeper _) hsp
  have I : Inv (cxOf CX P w K mg base N qual scope f cdv A outer s H E) [] (start N vs) H s1 := inv_start S hr.hd e0 hl r x
  refine wpAny_mono (ht.run [] s1 (start N vs) H _ I hq) (fun fl s' hs => ?_) fun e s' hs => hs
  have fin : ∀ {σ' : L2.St} {H' : Hp} {v : V} {u : Value}, Inv (cxOf CX P w K mg base N qual scope f cdv A outer s H E) [] σ' H' s' → RelV v u → Q v H' → CE outer P w H s Q u s' :=
    fun {σ' H' v u} J rv q => ⟨v, H', J.os, J.bare, J.base, J.hok, rv, q⟩
  cases fl with
  | ret u =>
    obtain ⟨v, σ', H', J, rv, q⟩ := hs
    exact fin J rv q
  | next =>
    obtain ⟨σ', H', J, q⟩ := hs
    exact fin (v := V.non) (u := Value.none) J rfl q
  | brk =>
    obtain ⟨_, _, _, q⟩ := hs
    exact False.elim q
  | cont =>
    obtain ⟨_, _, _, q⟩ := hs
    exact False.elim q
/-! ### the body by its mirror -/
def ioIx : List Kd → Nat → List Nat
  | [], _ => []
  | .fz :: ks, n => ioIx ks (n + 1)
  | _ :: ks, n => n :: ioIx ks (n + 1)
def outsE (ρ : Env) : List Nat → List D
  | [] => []
  | i :: is => match ρ[i]? with
    | some (some d) => d :: outsE ρ is
    | _ => outsE ρ is
def stE (n : Nat) (ds : List D) : Env := ds.map some ++ List.replicate (n - ds.length) none
def mFn (n : Nat) (ks : List Kd) (ro : Bool) (b : MS) : MFn := fun ds => match b (stE n ds) with
  | .nx ρ => if ro = true then .no else .ok .non (outsE ρ (ioIx ks 0))
  | .rt d ρ => .ok d (outsE ρ (ioIx ks 0))
  | .er x ρ => .er x (outsE ρ (ioIx ks 0))
  | _ => .no
def iosL : List Kd → List V → Nat → List (Nat × Addr)
  | .fz :: ks, _ :: vs, n => iosL ks vs (n + 1)
  | _ :: ks, .ref a :: vs, n => (n, a) :: iosL ks vs (n + 1)
  | _, _, _ => []
section
variable {K : Frag} {ct : Ct} {F H : Hp}
theorem iosL_mem {ks : List Kd} {ds : List D} {vs : List V} (h : ArL K ct F H ks ds vs) (hk : ∀ k ∈ ks, k ≠ .ow) : ∀ {n i : Nat} {a : Addr}, (i, a) ∈ iosL ks vs n ↔ ∃ j, i = n + j ∧ ks[j]? = some .io ∧ vs[j]? = some (.ref a) := by
  induction ks generalizing ds vs with
  | nil => obtain ⟨rfl, rfl⟩ := h; intro n i a; simp [iosL]
  | cons k ks ih =>
    intro n i a
    cases k with
    | ow => exact absurd rfl (hk _ List.mem_cons_self)
    | fz =>
      obtain ⟨d, ds', v, vs', rfl, rfl, _, h⟩ := h
      simp only [iosL]
      rw [ih h (fun k z => hk k (List.mem_cons_of_mem _ z))]
      constructor
      · rintro ⟨j, e, e1, e2⟩; exact ⟨j + 1, by omega, by simpa using e1, by simpa using e2⟩
      · rintro ⟨j, e, e1, e2⟩
        cases j with
        | zero => simp at e1
        | succ j => exact ⟨j, by omega, by simpa using e1, by simpa using e2⟩
    | io =>
      obtain ⟨d, ds', b, vs', o, rfl, rfl, _, _, _, h⟩ := h
      simp only [iosL, List.mem_cons, Prod.mk.injEq]
      rw [ih h (fun k z => hk k (List.mem_cons_of_mem _ z))]
      constructor
      · rintro (⟨rfl, rfl⟩ | ⟨j, e, e1, e2⟩)
        · exact ⟨0, rfl, rfl, rfl⟩
        · exact ⟨j + 1, by omega, by simpa using e1, by simpa using e2⟩
      · rintro ⟨j, e, e1, e2⟩
        cases j with
        | zero => simp at e2; exact .inl ⟨by omega, e2.symm⟩
        | succ j => exact .inr ⟨j, by omega, by simpa using e1, by simpa using e2⟩
theorem iosL_snd {ks : List Kd} {ds : List D} {vs : List V} (h : ArL K ct F H ks ds vs) (hk : ∀ k ∈ ks, k ≠ .ow) : ∀ {n : Nat}, (iosL ks vs n).map (·.2) = ioA ks vs := by
  induction ks generalizing ds vs with
  | nil => obtain ⟨rfl, rfl⟩ := h; intro n; rfl
  | cons k ks ih =>
    intro n
    cases k with
    | ow => exact absurd rfl (hk _ List.mem_cons_self)
    | fz =>
      obtain ⟨d, ds', v, vs', rfl, rfl, _, h⟩ := h
      exact ih h fun k z => hk k (List.mem_cons_of_mem _ z)
    | io =>
      obtain ⟨d, ds', b, vs', o, rfl, rfl, _, _, _, h⟩ := h
      simp only [iosL, ioA, List.map_cons]
      rw [ih h fun k z => hk k (List.mem_cons_of_mem _ z)]
theorem iosL_fst {ks : List Kd} {ds : List D} {vs : List V} (h : ArL K ct F H ks ds vs) (hk : ∀ k ∈ ks, k ≠ .ow) : ∀ {n : Nat}, (iosL ks vs n).map (·.1) = ioIx ks n := by
  induction ks generalizing ds vs with
  | nil => obtain ⟨rfl, rfl⟩ := h; intro n; rfl
  | cons k ks ih =>
    intro n
    cases k with
    | ow => exact absurd rfl (hk _ List.mem_cons_self)
    | fz =>
      obtain ⟨d, ds', v, vs', rfl, rfl, _, h⟩ := h
      exact ih h fun k z => hk k (List.mem_cons_of_mem _ z)
    | io =>
      obtain ⟨d, ds', b, vs', o, rfl, rfl, _, _, _, h⟩ := h
      simp only [iosL, ioIx, List.map_cons]
      rw [ih h fun k z => hk k (List.mem_cons_of_mem _ z)]
theorem ArL.get {ks : List Kd} {ds : List D} {vs : List V} (h : ArL K ct F H ks ds vs) : ∀ {i : Nat} {d : D} {k : Kd}, ks[i]? = some k → ds[i]? = some d → (k = .fz ∧ ∃ v, vs[i]? = some v ∧ Rp K ct F d v) ∨ (k ≠ .fz ∧ ∃ a o, vs[i]? = some (.ref a) ∧ F a = none ∧ H a = some o ∧ OwO K ct F d o) := by
  induction ks generalizing ds vs with
  | nil => intro i d k e; simp at e
  | cons k0 ks ih =>
    intro i d k e1 e2
    have go : ∀ {d0 v0 ds' vs'}, ds = d0 :: ds' → vs = v0 :: vs' → ArL K ct F H ks ds' vs' → ∀ j, i = j + 1 → (k = .fz ∧ ∃ v, vs[i]? = some v ∧ Rp K ct F d v) ∨ (k ≠ .fz ∧ ∃ a o, vs[i]? = some (.ref a) ∧ F a = none ∧ H a = some o ∧ OwO K ct F d o) := fun {d0 v0 ds' vs'} ea eb h9 j ej => by
      subst ea eb ej
      have := ih h9 (i := j) (d := d) (k := k) (by simpa using e1) (by simpa using e2)
      simpa using this
    cases k0 with
    | fz =>
      obtain ⟨d0, ds', v, vs', rfl, rfl, r, h⟩ := h
      cases i with
      | zero => simp at e1 e2; subst e1 e2; exact .inl ⟨rfl, v, rfl, r⟩
      | succ j => exact go rfl rfl h j rfl
    | ow =>
      obtain ⟨d0, ds', b, vs', o, rfl, rfl, q1, q2, q3, h⟩ := h
      cases i with
      | zero => simp at e1 e2; subst e1 e2; exact .inr ⟨by decide, b, o, rfl, q1, q2, q3⟩
      | succ j => exact go rfl rfl h j rfl
    | io =>
      obtain ⟨d0, ds', b, vs', o, rfl, rfl, q1, q2, q3, h⟩ := h
      cases i with
      | zero => simp at e1 e2; subst e1 e2; exact .inr ⟨by decide, b, o, rfl, q1, q2, q3⟩
      | succ j => exact go rfl rfl h j rfl
theorem nodup_snd {l : List (Nat × Addr)} (h : (l.map (·.2)).Nodup) {i j : Nat} {a : Addr} (h1 : (i, a) ∈ l) (h2 : (j, a) ∈ l) : i = j := by
  induction l with
  | nil => simp at h1
  | cons p l ih =>
    simp only [List.map_cons, List.nodup_cons] at h
    rcases List.mem_cons.mp h1 with e1 | e1
    · rcases List.mem_cons.mp h2 with e2 | e2
      · rw [← e1] at e2; exact (congrArg Prod.fst e2).symm
      · exact absurd (List.mem_map.mpr ⟨_, e2, by rw [← e1]⟩) h.1
    · rcases List.mem_cons.mp h2 with e2 | e2
      · exact absurd (List.mem_map.mpr ⟨_, e1, by rw [← e2]⟩) h.1
      · exact ih h.2 e1 e2
/-- the state at a body's start -/
theorem start_rs {N : List Str} {ks Γl : List Kd} {ds : List D} {vs : List V} (hs : Same F H) (h : ArL K ct F H ks ds vs) (hk : ∀ k ∈ ks, k ≠ .ow) (nd : (ioA ks vs).Nodup) (hl : (ks ++ Γl).length = N.length) :
    RS ⟨K, ct, F, H, iosL ks vs 0⟩ (ks ++ Γl) F (stE N.length ds) (start N vs) H := by
  obtain ⟨l1, l2⟩ := h.len
  have hN : ks.length ≤ N.length := by rw [← hl, List.length_append]; omega
  have g1 : ∀ {i : Nat} {d : D}, (stE N.length ds)[i]? = some (some d) → i < ks.length ∧ ds[i]? = some d := fun {i d} e => by
    unfold stE at e
    by_cases hi : i < ds.length
    · rw [List.getElem?_append_left (by simpa using hi), List.getElem?_map] at e
      obtain ⟨d', e1, e2⟩ := Option.map_eq_some_iff.mp e
      cases e2
      exact ⟨by omega, e1⟩
    · rw [List.getElem?_append_right (by simpa using hi), List.getElem?_replicate] at e
      split at e <;> cases e
  have g2 : ∀ {i : Nat} {v : V}, vs[i]? = some v → (start N vs)[i]? = some (some v) := fun {i v} e => by
    have hi := (List.getElem?_eq_some_iff.mp e).1
    unfold L2.start
    rw [List.getElem?_append_left (by simpa using hi), List.getElem?_map, e]
    rfl
  have g3 : ∀ {i : Nat} {v : V}, (start N vs)[i]? = some (some v) → vs[i]? = some v := fun {i v} e => by
    unfold L2.start at e
    by_cases hi : i < vs.length
    · rw [List.getElem?_append_left (by simpa using hi), List.getElem?_map] at e
      obtain ⟨d', e1, e2⟩ := Option.map_eq_some_iff.mp e
      cases e2
      exact e1
    · rw [List.getElem?_append_right (by simpa using hi), List.getElem?_replicate] at e
      split at e <;> cases e
  have gk : ∀ {i : Nat}, i < ks.length → (ks ++ Γl)[i]? = ks[i]? := fun {i} hi => List.getElem?_append_left hi
  have ls : (start N vs).length = N.length := by unfold L2.start; rw [List.length_append, List.length_map, List.length_replicate]; omega
  have o1 : ∀ {i a}, Ow1 (ks ++ Γl) (start N vs) i a → (i, a) ∈ iosL ks vs 0 := fun {i a} ⟨z1, z2⟩ => by
    have z3 := g3 z2
    have hi : i < ks.length := by have := (List.getElem?_eq_some_iff.mp z3).1; omega
    rw [gk hi] at z1
    refine (iosL_mem h hk).mpr ⟨i, by omega, ?_, z3⟩
    rcases z1 with z1 | z1
    · exact absurd rfl (hk _ (List.mem_of_getElem? z1))
    · exact z1
  refine ⟨hs, Ext.refl, ?_, ?_, fun i e => ?_, fun i d e1 e2 => ?_, fun i d k e1 e2 e3 => ?_, fun i j a e1 e2 => ?_, fun p hp => ?_⟩
  · rw [ls]; unfold stE; rw [List.length_append, List.length_map, List.length_replicate]; omega
  · rw [ls]; exact hl
  · unfold stE at e
    by_cases hi : i < ds.length
    · rw [List.getElem?_append_left (by simpa using hi), List.getElem?_map] at e
      obtain ⟨d', _, e2⟩ := Option.map_eq_some_iff.mp e
      cases e2
    · rw [List.getElem?_append_right (by simpa using hi), List.getElem?_replicate] at e
      unfold L2.start
      rw [List.getElem?_append_right (by simp; omega), List.getElem?_replicate]
      split at e
      · rename_i hlt
        rw [List.length_map] at hlt ⊢
        rw [if_pos (by omega)]
      · cases e
  · obtain ⟨hi, e3⟩ := g1 e2
    rw [gk hi] at e1
    rcases h.get e1 e3 with ⟨_, v, z1, z2⟩ | ⟨z, _⟩
    · exact ⟨v, g2 z1, z2⟩
    · exact absurd rfl z
  · obtain ⟨hi, e4⟩ := g1 e3
    rw [gk hi] at e1
    rcases h.get e1 e4 with ⟨z, _⟩ | ⟨_, a, o, z1, z2, z3, z4⟩
    · exact absurd z e2
    · have hio : k = .io := by
        cases k with
        | fz => exact absurd rfl e2
        | ow => exact absurd rfl (hk _ (List.mem_of_getElem? e1))
        | io => rfl
      subst hio
      exact ⟨a, o, g2 z1, z2, z3, z4, .inl ⟨i, (iosL_mem h hk).mpr ⟨i, by omega, e1, z1⟩⟩, fun z => by cases z⟩
  · refine nodup_snd (l := iosL ks vs 0) ?_ (o1 e1) (o1 e2)
    rw [iosL_snd h hk]; exact nd
  · obtain ⟨i, a⟩ := p
    obtain ⟨j, e0, e1, e2⟩ := (iosL_mem h hk).mp hp
    have e0 : i = j := by omega
    subst e0
    have hi : i < ks.length := (List.getElem?_eq_some_iff.mp e1).1
    refine ⟨(gk hi).trans e1, g2 e2, ds[i]'(by omega), ?_⟩
    unfold stE
    show (ds.map some ++ _)[i]? = _
    rw [List.getElem?_append_left (by simp; omega), List.getElem?_map, List.getElem?_eq_getElem (by omega)]
    rfl
theorem outs_ok {F' H' : Hp} {ρ : Env} {l : List (Nat × Addr)} (h : ∀ p ∈ l, ∃ d o, ρ[p.1]? = some (some d) ∧ F' p.2 = none ∧ H' p.2 = some o ∧ OwO K ct F' d o) : OutOk K ct F' H' (outsE ρ (l.map (·.1))) (l.map (·.2)) := by
  induction l with
  | nil => exact .nil
  | cons p l ih =>
    obtain ⟨d, o, e1, e2, e3, e4⟩ := h p List.mem_cons_self
    simp only [List.map_cons, outsE, e1]
    exact .cons ⟨e2, o, e3, e4⟩ (ih fun q hq => h q (List.mem_cons_of_mem _ hq))
end
/-- THE RULE by the mirror -/
theorem fn_g {cn : Bool} {P : Program} {w : World} {K : Frag} {ct : Ct} {mg : Str → Option Value} {base : Heap} {k : Nat} {f : Addr} {x qual : Str} {params : Arguments} {body : List Stmt} {scope : Scope} {dvs : List V} {kws : List (Str × V)} {fd : FuncData}
    {N ps : List Str} {ks Γl Γ' : List Kd} {ro : Bool} {b : MS} (Fd : FunD K x qual params body scope dvs kws f fd) (Sc : FnScope N ps scope)
    (hb : ∀ (X : Cx) (S : Sg) (cdv : Value) (A : Around) (outer : List PySem.Env) (s : Shared) (H : Hp) (E : XK), X = cxOf (CXn cn P w) P w K mg base N qual scope f cdv A outer s H E → S.C.K = K → S.C.ct = ct → S.ge = none → S.ro = ro → Tkn cn X S.W → X.A.guards = some [] → Room k X.A →
      PassesOwn (model X.prog X.w) X.A X.env X.xe → EvSs X S (ks ++ Γl) Γ' body b)
    (hk : ∀ k ∈ ks, k ≠ .ow := by decide) (hps : ks.length = ps.length := by rfl) (hl : (ks ++ Γl).length = N.length := by rfl) :
    FnG P w K mg base (CXn cn P w) (k + 1) f fd ps (SpG K ct ks ro (mFn N.length ks ro b)) := by
  refine fn_any Fd Sc (fun vs H Q E ⟨F, ds, _, h, _⟩ => by rw [h.len.2, hps]) fun cdv A outer s H vs Q E hgd hr hsp => ?_
  obtain ⟨F, ds, hs, hA, nd, hsp⟩ := hsp
  have hX : (cxOf (CXn cn P w) P w K mg base N qual scope f cdv A outer s H E) = cxOf (CXn cn P w) P w K mg base N qual scope f cdv A outer s H E := rfl
  have hbd := hb (cxOf (CXn cn P w) P w K mg base N qual scope f cdv A outer s H E) ⟨⟨K, ct, F, H, iosL ks vs 0⟩, none, fun cl dx _ H => E cl dx H, [], [], ro⟩ cdv A outer s H E rfl rfl rfl rfl rfl (by cases cn with | true => exact L2N.takes_of rfl rfl rfl rfl | false => exact L2.takes_of rfl rfl rfl rfl) (deeper_guards hgd _) hr (passes_of rfl)
  refine ⟨_, hbd, F, stE N.length ds, start_rs hs hA hk nd hl, ?_⟩
  have io : ∀ {F' H'}, Ext (fun a => Fx.io ⟨K, ct, F, H, iosL ks vs 0⟩ a) F H F' H' → Ext (fun a => a ∈ ioA ks vs) F H F' H' := fun {F' H'} z => z.sub fun a ⟨i, ha⟩ => .inl (by rw [← iosL_snd hA hk (n := 0)]; exact List.mem_map.mpr ⟨_, ha, rfl⟩)
  have oo : ∀ {F' H' ρ'}, RO ⟨K, ct, F, H, iosL ks vs 0⟩ F' ρ' H' → OutOk K ct F' H' (outsE ρ' (ioIx ks 0)) (ioA ks vs) := fun {F' H' ρ'} z => by
    rw [← iosL_snd hA hk (n := 0), ← iosL_fst hA hk (n := 0)]
    exact outs_ok z.io
  unfold mFn at hsp
  cases e : b (stE N.length ds) with
  | nx ρ' =>
    rw [e] at hsp
    intro σ' F' H' sm rs
    cases ro with
    | true => exact hsp.elim
    | false =>
      have ro := rs.ro
      exact hsp .non F' H' (io ro.ext) ro.sub (show Rp K ct F' .non .non from rp_non.mpr rfl) (oo ro)
  | rt d ρ' =>
    rw [e] at hsp
    intro v F' H' sm ro rt
    exact hsp v F' H' (io ro.ext) ro.sub rt (oo ro)
  | er x ρ' =>
    rw [e] at hsp
    intro cl dx σ' F' H' sm re rx
    exact hsp cl dx F' H' (io (RO.ext re)) (RO.sub re) rx (oo re)
  | bk ρ' => rw [e] at hsp; exact hsp.elim
  | ct ρ' => rw [e] at hsp; exact hsp.elim
  | no => rw [e] at hsp; exact hsp.elim
end G
namespace G
open PySem PySem.Spec PyProof.Rows L2
/-- a def that lets out exceptions whose context is None alone -/
theorem FnG.dn {P : Program} {w : World} {K : Frag} {mg : Str → Option Value} {base : Heap} {k : Nat} {f : Addr} {fd : FuncData} {ps : List Str} {sp : Sp} (F : FnG P w K mg base (CXn true P w) k f fd ps sp) : FnG P w K mg base (CXn false P w) k f fd ps sp :=
  ⟨F.len, fun A outer s H args us vs Q E hg hr e0 hb r h => codeAny_mono (F.run A outer s H args us vs Q E hg hr e0 hb r h) fun r s' hq => by
    cases r with
    | ok fl =>
      cases fl with
      | ret u => exact hq
      | next => exact hq
      | brk => exact hq
      | cont => exact hq
    | error e =>
      obtain ⟨a, B, H', cls, d, e1, fl, z⟩ := (show L2N.CX P w outer H s E e s' from hq)
      obtain ⟨f1, f2, f3, oe, vs, T, oT, ts, he, hz, rr⟩ := fl
      exact (show L2.CX P w outer H s E e s' from ⟨a, B, H', cls, d, e1, ⟨f1, f2, f3, oe, vs, T, oT, ts, he, hz.zc, rr⟩, z⟩)⟩
end G
/-! G11: calls of the program's own functions. -/
namespace G
open PySem PySem.Spec PyProof.Rows L2
variable {cn : Bool}
/-! ### running a callee -/
section
variable {X : Cx} {W : WX} {k n : Nat} {f C : Addr} {fd : FuncData} {ps kn : List Str} {sp : Sp} {g : List Value → List Value → List Value} {gV : List V → List V → List V}
theorem run_g {pins : List (Addr × Obj)} {σ : L2.St} {H : Hp} {s : Shared} {Q : VK} {us ws : List Value} {vs zs : List V} (F : FnG X.prog X.w X.K X.mg X.base (CXn cn X.prog X.w) k f fd ps sp) (hgd : X.A.guards = some []) (hr : Room k X.A) (hb : KBn X.K fd ps n kn g gV) (tk : Tkn cn X W)
    (I : Inv X pins σ H s) (r : Vals vs us) (rz : Vals zs ws) (l1 : vs.length = n) (l2 : zs.length = kn.length) (h : sp (gV vs zs) H Q (WE W σ)) : wpAny (model X.prog X.w) X.A (call (.ref f) us (kn.zip ws)) (EP X pins σ Q) X.xe s := by
  have r2 := hb.rel r rz
  refine wpAny_call (codeAny_mono (F.run X.A X.stack s H ⟨us, kn.zip ws⟩ (g us ws) (gV vs zs) Q (WE W σ) hgd hr I.env0 (hb.to s us ws I.kIn (r.length.symm.trans l1) (rz.length.symm.trans l2)) r2 h) fun r s' hq => ?_)
  cases r with
  | error e => exact passAtn tk σ pins H s e s' I hq
  | ok fl =>
    cases fl with
    | ret u => exact I.after hq
    | next => exact False.elim hq
    | brk => exact False.elim hq
    | cont => exact False.elim hq
end
/-- f(e, ..), f(e, .., k = v, ..) by values -/
def tG (n m : Nat) (sp : Sp) (gV : List V → List V → List V) (W : WX) (t tk : TA) : TE := fun σ H Q => t σ H fun vs H1 => tk σ H1 fun zs H2 => vs.length = n ∧ zs.length = m ∧ sp (gV vs zs) H2 Q (WE W σ)
section
variable {X : Cx} {W : WX} {k n : Nat} {f C : Addr} {fd : FuncData} {ps kn : List Str} {sp : Sp} {g : List Value → List Value → List Value} {gV : List V → List V → List V} {x m : Str} {p pos apos : Pos} {e o : Expr} {es : List Expr} {kws : List Keyword} {t tkw : TA} {ta : TE}
/-- a callee at hand -/
structure Fn (cn : Bool) (X : Cx) (k : Nat) (f : Addr) (fd : FuncData) (ps : List Str) (sp : Sp) : Prop where
  fn : FnG X.prog X.w X.K X.mg X.base (CXn cn X.prog X.w) k f fd ps sp
  gd : X.A.guards = some []
  rm : Room k X.A
theorem pe_g (F : Fn cn X k f fd ps sp) (hm : X.mg x = some (.ref f)) (hk : PySem.W.keepIn X.K (.ref f) = true) (hb : KBn X.K fd ps n [] g gV) (tk : Tkn cn X W) (ha : PA X (e :: es) t) (hg : Gl X x := by rfl)
    (hdb : (x == ("__debug__" : Str)) = false := by decide) (he : starEach (e :: es) X.env = (false, eval e X.env) :: starEach es X.env := by rfl) (hpl : (backTo pos (starEach es X.env)).any (·.1) = false := by rfl) :
    PE X (.Call (.Name x p) (e :: es) [] pos) (tG n 0 sp gV W t tNil) := by
  refine ⟨fun pins s σ H Q I h => ?_⟩
  refine wpAny_Call_Name_kw (ld_glob I hg hm ?_ hdb)
  refine PySem.W.callWith_K (h₀ := X.base) I.ok.mod.kin hk (thn (ha.run pos pins s σ H _ I h) fun us s1 ⟨vs, H1, I1, r, l1, l2, q⟩ => ⟨I1.kIn, ?_⟩) he hpl
  exact run_g (ws := []) (zs := []) F.fn F.gd F.rm hb tk I1 r .nil l1 rfl q
end
/-! ### binding, by data -/
/-- what is bound: positional and keywords' data in the parameters' order -/
structure BnD (K : Frag) (ct : Ct) (fd : FuncData) (ps : List Str) (n : Nat) (kn : List Str) (gD : List D → List D → List D) : Prop where
  ex : ∃ g gV, KBn K fd ps n kn g gV ∧ ∀ F vs ds zs es, RpL K ct F ds vs → RpL K ct F es zs → RpL K ct F (gD ds es) (gV vs zs)
/-- all are written -/
def BnF (K : Frag) (fd : FuncData) (ps : List Str) : Prop := KBn K fd ps ps.length [] (fun us _ => us) (fun vs _ => vs)
theorem bnF {K : Frag} {fd : FuncData} {ps : List Str} (h : Binds K fd ps []) : BnF K fd ps := ⟨fun s us ws hK l1 l2 => by
  have := h s us hK (by simpa using l1)
  simpa using this, fun r _ => r⟩
theorem BnF.d {K : Frag} {ct : Ct} {fd : FuncData} {ps : List Str} (h : BnF K fd ps) : BnD K ct fd ps ps.length [] (fun ds _ => ds) := ⟨_, _, h, fun _ _ _ _ _ r _ => r⟩
/-! ### after a call -/
/-- exceptions' kinds: none, or reached by freezing -/
def GeLe (Γ : List Kd) (ge : Option (List Kd)) : Prop := ge = none ∨ ∃ is Γ2, frzL is Γ = some Γ2 ∧ ge = some Γ2
theorem RX.mono {K : Frag} {ct : Ct} {F F' H : Hp} {x : Ex} {cl : Value} {dx : Option Addr} (h : RX K ct F H x cl dx) (e : Same F F') : RX K ct F' H x cl dx := by
  obtain ⟨h1, h2⟩ := h
  exact ⟨h1, h2.elim .inl fun ⟨b, vs, e1, e2, e3, e4⟩ => .inr ⟨b, vs, e1, e _ _ e2, e3, e4.mono e⟩⟩
theorem RE.le {C : Fx} {ge : Option (List Kd)} {Γ : List Kd} {F H : Hp} {ρ : Env} {σ : L2.St} (r : RS C Γ F ρ σ H) (h : GeLe Γ ge) : ∃ F', Same F F' ∧ RE C ge F' ρ σ H := by
  rcases h with rfl | ⟨is, Γ2, e, rfl⟩
  · exact ⟨F, Same.refl _, r.ro⟩
  · obtain ⟨F', sm, r'⟩ := r.frzs e
    exact ⟨F', sm, r'⟩
section
variable {X : Cx} {S : Sg} {Γ : List Kd}
/-- a frozen call's result -/
def frM (r : FR) : M D := fun ρ => match r with
  | .ok d _ => .ok d ρ
  | .er x _ => .er x ρ
  | .no => .no
def allFz (ks : List Kd) : Bool := ks.all fun k => decide (k = .fz)
theorem arl_fz {K : Frag} {ct : Ct} {F H : Hp} : ∀ {ks : List Kd} {ds : List D} {vs : List V}, allFz ks = true → RpL K ct F ds vs → ds.length = ks.length → ArL K ct F H ks ds vs ∧ ioA ks vs = []
  | [], ds, vs, _, r, hl => by
    have e : ds = [] := List.length_eq_zero_iff.mp hl
    subst e
    rw [rpl_nil.mp r]
    exact ⟨⟨rfl, rfl⟩, rfl⟩
  | k :: ks, ds, vs, h, r, hl => by
    unfold allFz at h
    simp only [List.all_cons, Bool.and_eq_true, decide_eq_true_eq] at h
    obtain ⟨rfl, h⟩ := h
    cases ds with
    | nil => simp at hl
    | cons d ds =>
      obtain ⟨v, w, rfl, r1, r2⟩ := rpl_cons.mp r
      obtain ⟨q1, q2⟩ := arl_fz (ks := ks) h r2 (by simpa using hl)
      exact ⟨⟨d, ds, v, w, rfl, rfl, r1, q1⟩, q2⟩
/-- the promise met: frozen arguments -/
theorem spg_fz {ks : List Kd} {MF : MFn} {F H : Hp} {ds : List D} {vs : List V} {σ : L2.St} {Q : VK} (hks : allFz ks = true) (hge : GeLe Γ S.ge) (r : RpL S.C.K S.C.ct F ds vs) (hl : ds.length = ks.length) (h : TrF S Γ (rD S) (frM (MF ds)) F σ H Q) :
    SpG S.C.K S.C.ct ks false MF vs H Q (WE S.W σ) := by
  obtain ⟨ρ, rs, h⟩ := h
  obtain ⟨q1, q2⟩ := arl_fz (H := H) hks r hl
  refine ⟨F, ds, rs.sub, q1, by rw [q2]; exact List.nodup_nil, ?_⟩
  unfold frM at h
  have up : ∀ {F' H'}, Ext (fun a => a ∈ ioA ks vs) F H F' H' → Ext (fun _ => False) F H F' H' := fun {F' H'} x => by rw [q2] at x; exact x.sub fun b hb => by simp at hb
  cases e : MF ds with
  | no => rw [e] at h; exact h.elim
  | ok d outs =>
    rw [e] at h
    intro v F' H' x hs rt _
    have x := up x
    exact h v F' H' (rs.grow x hs) (x.sub fun _ z => z.elim) rt
  | er z outs =>
    rw [e] at h
    intro cl dx F' H' x hs rx _
    have x := up x
    obtain ⟨F2, sm, re⟩ := RE.le (rs.grow x hs) hge
    exact h cl dx F2 H' (x.f.trans sm) re (rx.mono sm)
/-- f(..) of frozen data, with keywords: the mirror -/
def mCall (gD : List D → List D → List D) (MF : MFn) (m mk : M (List D)) : M D := m.bind fun ds => mk.bind fun es => frM (MF (gD ds es))
/-- .. the number of the arguments is right -/
def mCkd (n m k : Nat) (gD : List D → List D → List D) (MF : MFn) (a b : M (List D)) : M D := a.bind fun ds => b.bind fun es => if ds.length = n ∧ es.length = m ∧ (gD ds es).length = k then frM (MF (gD ds es)) else M.opt none
theorem tr_g {ks : List Kd} {MF : MFn} {gD : List D → List D → List D} {gV : List V → List V → List V} {n m : Nat} {ma mk : M (List D)} (hks : allFz ks = true) (hge : GeLe Γ S.ge) (hgr : ∀ F vs ds zs es, RpL S.C.K S.C.ct F ds vs → RpL S.C.K S.C.ct F es zs → RpL S.C.K S.C.ct F (gD ds es) (gV vs zs))
    {σ : L2.St} {H : Hp} {Q : VK} (q : Tr S Γ (rD S) (mCkd n m ks.length gD MF ma mk) σ H Q) : tG n m (SpG S.C.K S.C.ct ks false MF) gV S.W (Tr S Γ (rL S) ma) (Tr S Γ (rL S) mk) σ H Q := by
  refine (Tr.bind (R1 := rL S) rD_late q).mono fun vs H1 ⟨ds, F1, r, q⟩ => ⟨F1, (TrF.bind (R1 := rL S) rD_late q).mono fun zs H2 ⟨es, F2, r2, x2, q⟩ => ?_⟩
  split at q
  · rename_i hl
    have ra : RpL S.C.K S.C.ct F2 ds vs := RpL.mono x2.f r
    have rb : RpL S.C.K S.C.ct F2 es zs := r2
    exact ⟨by rw [← ra.length]; exact hl.1, by rw [← rb.length]; exact hl.2.1, spg_fz hks hge (hgr _ _ _ _ _ ra rb) hl.2.2 q⟩
  · exact q.nope.elim
def EvK (X : Cx) (S : Sg) (Γ : List Kd) (kws : List Keyword) (m : M (List D)) : Prop := PK X kws (Tr S Γ (rL S) m)
theorem pk_imp {e : List Keyword} {t t' : TA} (h : PK X e t) (k : ∀ σ H Q, t' σ H Q → t σ H Q) : PK X e t' := ⟨fun pos pins s σ H Q I q => h.run pos pins s σ H Q I (k _ _ _ q)⟩
theorem k_nil : EvK X S Γ [] mNil := pk_imp pk_nil fun σ H Q ⟨F, h⟩ => h.ret0 (rpl_nil.mpr rfl)
theorem k_cons {e : Expr} {nm : Option Str} {kpos : Pos} {kws : List Keyword} {m : M D} {n : M (List D)} (h : EvE X S Γ e m) (h' : EvK X S Γ kws n) : EvK X S Γ (⟨nm, e, kpos⟩ :: kws) (mCons m n) := pk_imp (pk_cons h h') fun σ H Q q => by
  refine (Tr.bind (R1 := rD S) rL_late q).mono fun v H1 ⟨d, F1, r, q⟩ => ⟨F1, (TrF.bind (R1 := rL S) rL_late q).mono fun w H2 ⟨e, F2, q2, x2, h⟩ => ?_⟩
  exact h.ret0 (rpl_cons.mpr ⟨v, w, rfl, Rp.mono x2.f r, q2⟩)
variable {k n : Nat} {f : Addr} {fd : FuncData} {ps kn : List Str} {x : Str} {p pos : Pos} {e : Expr} {es : List Expr} {kws : List Keyword} {ks : List Kd} {MF : MFn} {gD : List D → List D → List D} {ma mk : M (List D)}
theorem e_g (F : Fn cn X k f fd ps (SpG S.C.K S.C.ct ks false MF)) (hm : X.mg x = some (.ref f)) (hk : PySem.W.keepIn X.K (.ref f) = true) (hb : BnD X.K S.C.ct fd ps n [] gD) (tk : Tkn cn X S.W) (hge : GeLe Γ S.ge) (ha : EvA X S Γ (e :: es) ma) (hK : S.C.K = X.K) (hks : allFz ks = true := by rfl) (hg : Gl X x := by rfl)
    (hdb : (x == ("__debug__" : Str)) = false := by decide) (he : starEach (e :: es) X.env = (false, eval e X.env) :: starEach es X.env := by rfl) (hpl : (backTo pos (starEach es X.env)).any (·.1) = false := by rfl) :
    EvE X S Γ (.Call (.Name x p) (e :: es) [] pos) (mCkd n 0 ks.length gD MF ma mNil) := by
  obtain ⟨g, gV, hb, hgr⟩ := hb.ex
  refine pe_imp (pe_g F hm hk hb tk ha hg hdb he hpl) fun σ H Q q => ?_
  exact (tr_g hks hge (by rw [hK]; exact hgr) q).elim fun F h => ⟨F, h.mono fun vs H1 h => h.elim fun F h => h.ret0 (rpl_nil.mpr rfl)⟩
end
end G
/-! G12: calls that change what is handed in, or hand out a new object. -/
namespace G
open PySem PySem.Spec PyProof.Rows L2
variable {cn : Bool}
/-- an argument: frozen data; a slot's own object; a new object -/
inductive Ah where
  | fz | sl (i : Nat) | tm
  deriving DecidableEq
def AsR (K : Frag) (ct : Ct) (F Hs H : Hp) (σ : L2.St) : List Ah → List D → List V → Prop
  | [], fs, vs => fs = [] ∧ vs = []
  | .fz :: sh, fs, vs => ∃ d fs' v vs', fs = d :: fs' ∧ vs = v :: vs' ∧ Rp K ct F d v ∧ AsR K ct F Hs H σ sh fs' vs'
  | .sl i :: sh, fs, vs => ∃ v vs', vs = v :: vs' ∧ σ[i]? = some (some v) ∧ AsR K ct F Hs H σ sh fs vs'
  | .tm :: sh, fs, vs => ∃ d fs' a vs' o, fs = d :: fs' ∧ vs = .ref a :: vs' ∧ Hs a = none ∧ F a = none ∧ H a = some o ∧ OwO K ct F d o ∧ AsR K ct F Hs H σ sh fs' vs'
def rAs (S : Sg) (σ : L2.St) (sh : List Ah) : Rel (List D) (List V) := fun Hs F H fs vs => AsR S.C.K S.C.ct F Hs H σ sh fs vs
section
variable {K : Frag} {ct : Ct} {F F' Hs Hs' H H' : Hp} {σ : L2.St} {Γ : List Kd}
theorem AsR.late (k : ∀ b, Hs' b ≠ none → Hs b ≠ none) : ∀ {sh : List Ah} {fs : List D} {vs : List V}, AsR K ct F Hs H σ sh fs vs → AsR K ct F Hs' H σ sh fs vs
  | [], fs, vs, h => h
  | .fz :: sh, fs, vs, h => by obtain ⟨d, fs', v, vs', e1, e2, r, h⟩ := h; exact ⟨d, fs', v, vs', e1, e2, r, h.late k⟩
  | .sl i :: sh, fs, vs, h => by obtain ⟨v, vs', e1, e2, h⟩ := h; exact ⟨v, vs', e1, e2, h.late k⟩
  | .tm :: sh, fs, vs, h => by
    obtain ⟨d, fs', a, vs', o, e1, e2, q0, q1, q2, q3, h⟩ := h
    refine ⟨d, fs', a, vs', o, e1, e2, ?_, q1, q2, q3, h.late k⟩
    cases e : Hs' a with
    | none => rfl
    | some x => exact absurd q0 (k a (by rw [e]; simp))
end
/-- the bind with the first start kept -/
theorem TrF.bindK {S : Sg} {Γ : List Kd} {α β γ δ : Type} {R : Rel α γ} {R1 : Rel β δ} {m : M β} {f : β → M α} {F : Hp} {σ : L2.St} {H : Hp} {Q : γ → Hp → Prop} (h : TrF S Γ R (m.bind f) F σ H Q) :
    TrF S Γ R1 m F σ H fun v H1 => ∃ d F1, R1 H F1 H1 d v ∧ Ext (Own Γ σ) F H F1 H1 ∧ TrF S Γ (fun _ => R H) (f d) F1 σ H1 Q := by
  obtain ⟨ρ, r, h⟩ := h
  refine ⟨ρ, r, ?_⟩
  unfold M.bind at h
  cases e : m ρ with
  | no => rw [e] at h; exact h.elim
  | er x ρ' => rw [e] at h; exact h
  | ok d ρ' =>
    rw [e] at h
    intro v F1 H1 r1 x1 q1
    refine ⟨d, F1, q1, x1, ρ', r1, ?_⟩
    have h' : (match f d ρ' with
      | .ok d ρ'' => ∀ v F' H', RS S.C Γ F' ρ'' σ H' → Ext (Own Γ σ) F H F' H' → R H F' H' d v → Q v H'
      | .er x ρ'' => ∀ cl dx F' H', Same F F' → RE S.C S.ge F' ρ'' σ H' → RX S.C.K S.C.ct F' H' x cl dx → S.W cl dx σ H'
      | .no => False) := h
    cases e2 : f d ρ' with
    | no => rw [e2] at h'; exact h'.elim
    | er x ρ'' => rw [e2] at h'; exact fun cl dx F2 H2 sm re rx => h' cl dx F2 H2 (x1.f.trans sm) re rx
    | ok d2 ρ'' =>
      rw [e2] at h'
      exact fun v2 F2 H2 r2 x2 q2 => h' v2 F2 H2 r2 (x1.trans x2) q2
/-- the bind, all of it seen from the first start -/
theorem TrF.raw {S : Sg} {Γ : List Kd} {α β γ δ : Type} {R : Rel α γ} {R1 : Rel β δ} {m : M β} {f : β → M α} {F : Hp} {σ : L2.St} {H : Hp} {Q : γ → Hp → Prop} (h : TrF S Γ R (m.bind f) F σ H Q) :
    TrF S Γ R1 m F σ H fun v H1 => ∃ d F1 ρ1, R1 H F1 H1 d v ∧ Ext (Own Γ σ) F H F1 H1 ∧ RS S.C Γ F1 ρ1 σ H1 ∧ (match f d ρ1 with
      | .ok d ρ'' => ∀ v F' H', RS S.C Γ F' ρ'' σ H' → Ext (Own Γ σ) F H F' H' → R H F' H' d v → Q v H'
      | .er x ρ'' => ∀ cl dx F' H', Same F F' → RE S.C S.ge F' ρ'' σ H' → RX S.C.K S.C.ct F' H' x cl dx → S.W cl dx σ H'
      | .no => False) := by
  obtain ⟨ρ, r, h⟩ := h
  refine ⟨ρ, r, ?_⟩
  unfold M.bind at h
  cases e : m ρ with
  | no => rw [e] at h; exact h.elim
  | er x ρ' => rw [e] at h; exact h
  | ok d ρ' =>
    rw [e] at h
    exact fun v F1 H1 r1 x1 q1 => ⟨d, F1, ρ', q1, x1, r1, h⟩
theorem TrF.mapR {S : Sg} {Γ : List Kd} {α γ δ : Type} {R : Rel α γ} {R1 : Rel α δ} {f : δ → γ} {m : M α} {F : Hp} {σ : L2.St} {H : Hp} {Q : γ → Hp → Prop} (h : TrF S Γ R m F σ H Q) (k : ∀ d v F' H', R1 H F' H' d v → R H F' H' d (f v)) : TrF S Γ R1 m F σ H fun v H' => Q (f v) H' := by
  obtain ⟨ρ, r, h⟩ := h
  refine ⟨ρ, r, ?_⟩
  cases e : m ρ with
  | no => rw [e] at h; exact h.elim
  | er x ρ' => rw [e] at h; exact h
  | ok d ρ' =>
    rw [e] at h
    exact fun v F1 H1 r1 x1 q1 => h (f v) F1 H1 r1 x1 (k _ _ _ _ q1)
def EvH (X : Cx) (S : Sg) (Γ : List Kd) (sh : List Ah) (es : List Expr) (m : M (List D)) : Prop := PA X es (fun σ H Q => Tr S Γ (rAs S σ sh) m σ H Q)
section
variable {X : Cx} {S : Sg} {Γ : List Kd}
theorem h_nil : EvH X S Γ [] [] mNil := pa_imp pa_nil fun σ H Q ⟨F, h⟩ => h.ret0 ⟨rfl, rfl⟩
theorem h_fz {sh : List Ah} {e : Expr} {es : List Expr} {m : M D} {n : M (List D)} (h : EvE X S Γ e m) (h' : EvH X S Γ sh es n) (hs : starEach (e :: es) X.env = (false, eval e X.env) :: starEach es X.env := by rfl) : EvH X S Γ (.fz :: sh) (e :: es) (mCons m n) := pa_imp (pa_cons h h' hs) fun σ H Q ⟨F, q⟩ => by
  refine ⟨F, (TrF.bindK (R1 := rD S) q).mono fun v H1 ⟨d, F1, r, x1, q⟩ => ⟨F1, (TrF.bindK (R1 := rAs S σ sh) q).mono fun w H2 ⟨e, F2, q2, x2, h⟩ => ?_⟩⟩
  exact h.ret0 ⟨d, e, v, w, rfl, rfl, Rp.mono x2.f r, AsR.late (Hs := H1) x1.n q2⟩
theorem h_sl {sh : List Ah} {i : Nat} {e : Expr} {es : List Expr} {n : M (List D)} (h : PE X e (tVar i)) (h' : EvH X S Γ sh es n) (hs : starEach (e :: es) X.env = (false, eval e X.env) :: starEach es X.env := by rfl) : EvH X S Γ (.sl i :: sh) (e :: es) ((mV i).bind fun _ => n) := pa_imp (pa_cons h h' hs) fun σ H Q ⟨F, q⟩ => by
  obtain ⟨d, u, hu, _, q⟩ := TrF.slot q
  exact ⟨u, hu, F, q.mapR (f := fun w => u :: w) fun fs w F' H' r => ⟨u, w, rfl, hu, r⟩⟩
theorem h_tm {sh : List Ah} {e : Expr} {es : List Expr} {m : M D} {n : M (List D)} (h : EvO X S Γ e m) (h' : EvH X S Γ sh es n) (hs : starEach (e :: es) X.env = (false, eval e X.env) :: starEach es X.env := by rfl) : EvH X S Γ (.tm :: sh) (e :: es) (mCons m n) := pa_imp (pa_cons h h' hs) fun σ H Q ⟨F, q⟩ => by
  obtain ⟨ρ0, rs0, _⟩ := id q
  refine ⟨F, (TrF.bindK (R1 := rO S) q).mono fun v H1 ⟨d, F1, r, x1, q⟩ => ⟨F1, (TrF.bindK (R1 := rAs S σ sh) q).mono fun w H2 ⟨e, F2, q2, x2, h⟩ => ?_⟩⟩
  obtain ⟨a, o, rfl, z1, z2, z3, z4⟩ := r
  have nO : ¬ Own Γ σ a := fun z => by
    obtain ⟨_, o', z⟩ := rs0.own_some z
    rw [z1] at z; cases z
  refine h.ret0 ⟨d, e, a, w, o, rfl, rfl, z1, ?_, x2.h a o z3 nO, z4.mono x2.f, AsR.late (Hs := H1) x1.n q2⟩
  cases ef : F2 a with
  | none => rfl
  | some y =>
    rcases x2.g a (by rw [ef]; simp) with z | z
    · exact absurd z2 z
    · rw [z3] at z; cases z
end
/-! ### the call -/
def fitsA (Γ : List Kd) : List Kd → List Ah → Bool
  | [], [] => true
  | .fz :: ks, .fz :: sh => fitsA Γ ks sh
  | .io :: ks, .sl i :: sh => (decide (Γ[i]? = some .ow) || decide (Γ[i]? = some .io)) && fitsA Γ ks sh
  | .io :: ks, .tm :: sh => fitsA Γ ks sh
  | _, _ => false
def slA : List Ah → List Nat
  | [] => []
  | .sl i :: sh => i :: slA sh
  | _ :: sh => slA sh
def tmA (sh : List Ah) : Nat := sh.count .tm
/-- the data at the call -/
def asmA (ρ : Env) : List Ah → List D → Option (List D)
  | .fz :: sh, d :: fs => (asmA ρ sh fs).map (d :: ·)
  | .tm :: sh, d :: fs => (asmA ρ sh fs).map (d :: ·)
  | .sl i :: sh, fs => match ρ[i]? with
    | some (some d) => (asmA ρ sh fs).map (d :: ·)
    | _ => none
  | [], [] => some []
  | _, _ => none
def putA : Env → List Ah → List D → Env
  | ρ, .fz :: sh, outs => putA ρ sh outs
  | ρ, .sl i :: sh, d :: outs => putA (ρ.set i (some d)) sh outs
  | ρ, .tm :: sh, _ :: outs => putA ρ sh outs
  | ρ, _, _ => ρ
section
variable {C : Fx} {F F' Hs H H' : Hp} {ρ : Env} {σ : L2.St} {Γ : List Kd}
theorem as_arl (r : RS C Γ F ρ σ H) : ∀ {ks : List Kd} {sh : List Ah} {fs ds : List D} {vs : List V}, fitsA Γ ks sh = true → AsR C.K C.ct F Hs H σ sh fs vs → asmA ρ sh fs = some ds → ArL C.K C.ct F H ks ds vs
  | [], [], fs, ds, vs, _, h, e => by
    obtain ⟨rfl, rfl⟩ := h
    simp only [asmA] at e
    cases e
    exact ⟨rfl, rfl⟩
  | [], .fz :: sh, _, _, _, f, _, _ | [], .sl i :: sh, _, _, _, f, _, _ | [], .tm :: sh, _, _, _, f, _, _ => by simp [fitsA] at f
  | .fz :: ks, [], _, _, _, f, _, _ | .io :: ks, [], _, _, _, f, _, _ | .ow :: ks, _, _, _, _, f, _, _ => by simp [fitsA] at f
  | .fz :: ks, .sl i :: sh, _, _, _, f, _, _ | .fz :: ks, .tm :: sh, _, _, _, f, _, _ | .io :: ks, .fz :: sh, _, _, _, f, _, _ => by simp [fitsA] at f
  | .fz :: ks, .fz :: sh, fs, ds, vs, f, h, e => by
    obtain ⟨d, fs', v, vs', rfl, rfl, rd, h⟩ := h
    simp only [asmA] at e
    obtain ⟨ds', e1, rfl⟩ := Option.map_eq_some_iff.mp e
    simp only [fitsA] at f
    exact ⟨d, ds', v, vs', rfl, rfl, rd, as_arl r f h e1⟩
  | .io :: ks, .tm :: sh, fs, ds, vs, f, h, e => by
    obtain ⟨d, fs', a, vs', o, rfl, rfl, q0, q1, q2, q3, h⟩ := h
    simp only [asmA] at e
    obtain ⟨ds', e1, rfl⟩ := Option.map_eq_some_iff.mp e
    simp only [fitsA] at f
    exact ⟨d, ds', a, vs', o, rfl, rfl, q1, q2, q3, as_arl r f h e1⟩
  | .io :: ks, .sl i :: sh, fs, ds, vs, f, h, e => by
    obtain ⟨v, vs', rfl, hv, h⟩ := h
    simp only [fitsA, Bool.and_eq_true, Bool.or_eq_true, decide_eq_true_eq] at f
    obtain ⟨hk, f⟩ := f
    simp only [asmA] at e
    cases e2 : ρ[i]? with
    | none => rw [e2] at e; cases e
    | some x =>
      rw [e2] at e
      cases x with
      | none => cases e
      | some d =>
        obtain ⟨ds', e1, rfl⟩ := Option.map_eq_some_iff.mp e
        obtain ⟨k, hk1, hk2⟩ : ∃ k, Γ[i]? = some k ∧ k ≠ .fz := by
          rcases hk with hk | hk
          · exact ⟨_, hk, by decide⟩
          · exact ⟨_, hk, by decide⟩
        obtain ⟨a, o, z1, z2, z3, z4, _⟩ := r.ow i d k hk1 hk2 e2
        rw [hv] at z1
        cases z1
        exact ⟨d, ds', a, vs', o, rfl, rfl, z2, z3, z4, as_arl r f h e1⟩
/-- what the addresses handed in are -/
theorem as_ioa : ∀ {ks : List Kd} {sh : List Ah} {fs : List D} {vs : List V} {a : Addr}, fitsA Γ ks sh = true → AsR C.K C.ct F Hs H σ sh fs vs → a ∈ ioA ks vs → (∃ i, i ∈ slA sh ∧ Ow1 Γ σ i a) ∨ Hs a = none
  | [], [], fs, vs, a, _, h, m => by
    obtain ⟨rfl, rfl⟩ := h
    simp [ioA] at m
  | [], .fz :: sh, _, _, _, f, _, _ | [], .sl i :: sh, _, _, _, f, _, _ | [], .tm :: sh, _, _, _, f, _, _ => by simp [fitsA] at f
  | .fz :: ks, [], _, _, _, f, _, _ | .io :: ks, [], _, _, _, f, _, _ | .ow :: ks, _, _, _, _, f, _, _ => by simp [fitsA] at f
  | .fz :: ks, .sl i :: sh, _, _, _, f, _, _ | .fz :: ks, .tm :: sh, _, _, _, f, _, _ | .io :: ks, .fz :: sh, _, _, _, f, _, _ => by simp [fitsA] at f
  | .fz :: ks, .fz :: sh, fs, vs, a, f, h, m => by
    obtain ⟨d, fs', v, vs', rfl, rfl, rd, h⟩ := h
    exact as_ioa (ks := ks) (sh := sh) f h m
  | .io :: ks, .tm :: sh, fs, vs, a, f, h, m => by
    obtain ⟨d, fs', b, vs', o, rfl, rfl, q0, q1, q2, q3, h⟩ := h
    simp only [ioA, List.mem_cons] at m
    rcases m with rfl | m
    · exact .inr q0
    · exact as_ioa (ks := ks) (sh := sh) f h m
  | .io :: ks, .sl i :: sh, fs, vs, a, f, h, m => by
    obtain ⟨v, vs', rfl, hv, h⟩ := h
    simp only [fitsA, Bool.and_eq_true, Bool.or_eq_true, decide_eq_true_eq] at f
    obtain ⟨hk, f⟩ := f
    cases v with
    | ref b =>
      simp only [ioA, List.mem_cons] at m
      rcases m with rfl | m
      · exact .inl ⟨i, List.mem_cons_self, hk, hv⟩
      · rcases as_ioa (ks := ks) (sh := sh) f h m with ⟨j, z1, z2⟩ | z
        · exact .inl ⟨j, List.mem_cons_of_mem _ z1, z2⟩
        · exact .inr z
    | _ => simp [ioA] at m
theorem as_nodup (r : RS C Γ F ρ σ H) (hO : ∀ c, Own Γ σ c → Hs c ≠ none) : ∀ {ks : List Kd} {sh : List Ah} {fs : List D} {vs : List V}, fitsA Γ ks sh = true → AsR C.K C.ct F Hs H σ sh fs vs → (slA sh).Nodup → tmA sh ≤ 1 → (ioA ks vs).Nodup ∧ (tmA sh = 0 → ∀ a ∈ ioA ks vs, Hs a ≠ none)
  | [], [], fs, vs, _, h, _, _ => by
    obtain ⟨rfl, rfl⟩ := h
    exact ⟨List.nodup_nil, fun _ a m => by simp [ioA] at m⟩
  | [], .fz :: sh, _, _, f, _, _, _ | [], .sl i :: sh, _, _, f, _, _, _ | [], .tm :: sh, _, _, f, _, _, _ => by simp [fitsA] at f
  | .fz :: ks, [], _, _, f, _, _, _ | .io :: ks, [], _, _, f, _, _, _ | .ow :: ks, _, _, _, f, _, _, _ => by simp [fitsA] at f
  | .fz :: ks, .sl i :: sh, _, _, f, _, _, _ | .fz :: ks, .tm :: sh, _, _, f, _, _, _ | .io :: ks, .fz :: sh, _, _, f, _, _, _ => by simp [fitsA] at f
  | .fz :: ks, .fz :: sh, fs, vs, f, h, nd, t => by
    obtain ⟨d, fs', v, vs', rfl, rfl, rd, h⟩ := h
    have t' : tmA sh ≤ 1 := by unfold tmA at t ⊢; simpa using t
    have e : tmA (.fz :: sh) = tmA sh := by unfold tmA; simp
    rw [e]
    exact as_nodup r hO (ks := ks) (sh := sh) f h nd t'
  | .io :: ks, .tm :: sh, fs, vs, f, h, nd, t => by
    obtain ⟨d, fs', b, vs', o, rfl, rfl, q0, q1, q2, q3, h⟩ := h
    have e : tmA (.tm :: sh) = tmA sh + 1 := by unfold tmA; simp
    rw [e] at t ⊢
    have t0 : tmA sh = 0 := by omega
    obtain ⟨z1, z2⟩ := as_nodup r hO (ks := ks) (sh := sh) f h nd (by omega)
    exact ⟨List.nodup_cons.mpr ⟨fun m => z2 t0 b m q0, z1⟩, fun z => by omega⟩
  | .io :: ks, .sl i :: sh, fs, vs, f, h, nd, t => by
    obtain ⟨v, vs', rfl, hv, h⟩ := h
    have f0 := f
    simp only [fitsA, Bool.and_eq_true, Bool.or_eq_true, decide_eq_true_eq] at f
    obtain ⟨hk, f⟩ := f
    have e : tmA (.sl i :: sh) = tmA sh := by unfold tmA; simp
    rw [e] at t ⊢
    have nd' := List.nodup_cons.mp nd
    obtain ⟨z1, z2⟩ := as_nodup r hO (ks := ks) (sh := sh) f h nd'.2 t
    cases v with
    | ref b =>
      have ob : Ow1 Γ σ i b := ⟨hk, hv⟩
      refine ⟨List.nodup_cons.mpr ⟨fun m => ?_, z1⟩, fun z a m => ?_⟩
      · rcases as_ioa f h m with ⟨j, y1, y2⟩ | y
        · exact nd'.1 (by rw [r.dj i j b ob y2]; exact y1)
        · exact hO b ⟨i, ob⟩ y
      · simp only [ioA, List.mem_cons] at m
        rcases m with rfl | m
        · exact hO a ⟨i, ob⟩
        · exact z2 z a m
    | _ => simp only [ioA]; exact ⟨List.nodup_nil, fun _ a m => by simp at m⟩
theorem putA_len : ∀ {sh : List Ah} {ρ : Env} {outs : List D}, (putA ρ sh outs).length = ρ.length
  | [], ρ, outs => by simp [putA]
  | .fz :: sh, ρ, outs => by simp only [putA]; exact putA_len
  | .sl i :: sh, ρ, [] => by simp [putA]
  | .sl i :: sh, ρ, d :: outs => by simp only [putA]; rw [putA_len]; simp
  | .tm :: sh, ρ, [] => by simp [putA]
  | .tm :: sh, ρ, d :: outs => by simp only [putA]; exact putA_len
theorem putA_out {j : Nat} : ∀ {sh : List Ah} {ρ : Env} {outs : List D}, j ∉ slA sh → (putA ρ sh outs)[j]? = ρ[j]?
  | [], ρ, outs, _ => by simp [putA]
  | .fz :: sh, ρ, outs, h => by simp only [putA]; exact putA_out h
  | .sl i :: sh, ρ, [], _ => by simp [putA]
  | .sl i :: sh, ρ, d :: outs, h => by
    simp only [putA]
    simp only [slA, List.mem_cons, not_or] at h
    rw [putA_out h.2, List.getElem?_set_ne (fun z => h.1 z.symm)]
  | .tm :: sh, ρ, [], _ => by simp [putA]
  | .tm :: sh, ρ, d :: outs, h => by simp only [putA]; exact putA_out h
theorem putA_in {j : Nat} : ∀ {ks : List Kd} {sh : List Ah} {fs outs : List D} {vs : List V} {ρ : Env}, fitsA Γ ks sh = true → AsR C.K C.ct F Hs H σ sh fs vs → (slA sh).Nodup → OutOk C.K C.ct F' H' outs (ioA ks vs) → (∀ i a, Ow1 Γ σ i a → i < ρ.length) → (∀ i ∈ slA sh, ∃ a, σ[i]? = some (some (.ref a))) → j ∈ slA sh →
      ∃ a d o, σ[j]? = some (some (.ref a)) ∧ F' a = none ∧ H' a = some o ∧ OwO C.K C.ct F' d o ∧ (putA ρ sh outs)[j]? = some (some d)
  | [], [], _, _, _, _, _, _, _, _, _, _, m => by simp [slA] at m
  | [], .fz :: sh, _, _, _, _, f, _, _, _, _, _, _ | [], .sl i :: sh, _, _, _, _, f, _, _, _, _, _, _ | [], .tm :: sh, _, _, _, _, f, _, _, _, _, _, _ => by simp [fitsA] at f
  | .fz :: ks, [], _, _, _, _, f, _, _, _, _, _, _ | .io :: ks, [], _, _, _, _, f, _, _, _, _, _, _ | .ow :: ks, _, _, _, _, _, f, _, _, _, _, _, _ => by simp [fitsA] at f
  | .fz :: ks, .sl i :: sh, _, _, _, _, f, _, _, _, _, _, _ | .fz :: ks, .tm :: sh, _, _, _, _, f, _, _, _, _, _, _ | .io :: ks, .fz :: sh, _, _, _, _, f, _, _, _, _, _, _ => by simp [fitsA] at f
  | .fz :: ks, .fz :: sh, fs, outs, vs, ρ, f, h, nd, oo, hl, hr, m => by
    obtain ⟨d, fs', v, vs', rfl, rfl, rd, h⟩ := h
    simp only [putA]
    exact putA_in (ks := ks) (sh := sh) f h nd oo hl hr m
  | .io :: ks, .tm :: sh, fs, outs, vs, ρ, f, h, nd, oo, hl, hr, m => by
    obtain ⟨d, fs', b, vs', o, rfl, rfl, q0, q1, q2, q3, h⟩ := h
    simp only [ioA] at oo
    cases oo with
    | cons q oo =>
      simp only [putA]
      exact putA_in (ks := ks) (sh := sh) f h nd oo hl hr m
  | .io :: ks, .sl i :: sh, fs, outs, vs, ρ, f, h, nd, oo, hl, hr, m => by
    obtain ⟨v, vs', rfl, hv, h⟩ := h
    simp only [fitsA, Bool.and_eq_true, Bool.or_eq_true, decide_eq_true_eq] at f
    obtain ⟨hk, f⟩ := f
    obtain ⟨b, hb⟩ := hr i List.mem_cons_self
    rw [hv] at hb
    cases hb
    simp only [ioA] at oo
    have nd' := List.nodup_cons.mp nd
    cases oo with
    | cons q oo =>
      rename_i d outs
      obtain ⟨q1, o, q2, q3⟩ := q
      simp only [putA]
      by_cases z : j = i
      · subst z
        refine ⟨b, d, o, hv, q1, q2, q3, ?_⟩
        rw [putA_out nd'.1]
        exact List.getElem?_set_self (hl _ b ⟨hk, hv⟩)
      · simp only [slA, List.mem_cons] at m
        exact putA_in (ks := ks) (sh := sh) f h nd'.2 oo (by simpa using hl) (fun i' z' => hr i' (List.mem_cons_of_mem _ z')) (m.resolve_left z)
/-- the state behind a call -/
theorem RS.call (r : RS C Γ F ρ σ H) {ks : List Kd} {sh : List Ah} {fs ds outs : List D} {vs : List V} (hO : ∀ c, Own Γ σ c → Hs c ≠ none) (f : fitsA Γ ks sh = true) (h : AsR C.K C.ct F Hs H σ sh fs vs) (ha : asmA ρ sh fs = some ds) (nd : (slA sh).Nodup)
    (x : Ext (fun a => a ∈ ioA ks vs) F H F' H') (hs : Same F' H') (oo : OutOk C.K C.ct F' H' outs (ioA ks vs)) (hH : ∀ c, Hs c = none → C.H0 c = none) : RS C Γ F' (putA ρ sh outs) σ H' := by
  have hl : ∀ i a, Ow1 Γ σ i a → i < ρ.length := fun i a z => by rw [r.ln]; exact (List.getElem?_eq_some_iff.mp z.2).1
  have asg : ∀ {sh : List Ah} {fs ds : List D} {ks : List Kd}, fitsA Γ ks sh = true → asmA ρ sh fs = some ds → ∀ i ∈ slA sh, (Γ[i]? = some .ow ∨ Γ[i]? = some .io) ∧ ∃ d, ρ[i]? = some (some d) := by
    intro sh
    induction sh with
    | nil => intro fs ds ks _ _ i m; simp [slA] at m
    | cons a sh ih =>
      intro fs ds ks f e i m
      cases ks with
      | nil => cases a <;> simp [fitsA] at f
      | cons k ks =>
        cases a with
        | fz =>
          cases k <;> simp only [fitsA] at f <;> try (cases f; done)
          cases fs with
          | nil => simp [asmA] at e
          | cons d fs =>
            simp only [asmA] at e
            obtain ⟨ds', e1, _⟩ := Option.map_eq_some_iff.mp e
            exact ih f e1 i m
        | tm =>
          cases k <;> simp only [fitsA] at f <;> try (cases f; done)
          cases fs with
          | nil => simp [asmA] at e
          | cons d fs =>
            simp only [asmA] at e
            obtain ⟨ds', e1, _⟩ := Option.map_eq_some_iff.mp e
            exact ih f e1 i m
        | sl j =>
          cases k <;> simp only [fitsA] at f <;> try (cases f; done)
          simp only [Bool.and_eq_true, Bool.or_eq_true, decide_eq_true_eq] at f
          simp only [asmA] at e
          cases e2 : ρ[j]? with
          | none => rw [e2] at e; cases e
          | some y =>
            rw [e2] at e
            cases y with
            | none => cases e
            | some d =>
              obtain ⟨ds', e1, _⟩ := Option.map_eq_some_iff.mp e
              simp only [slA, List.mem_cons] at m
              rcases m with rfl | m
              · exact ⟨f.1, d, e2⟩
              · exact ih f.2 e1 i m
  have hr : ∀ i ∈ slA sh, ∃ a, σ[i]? = some (some (.ref a)) := fun i m => by
    obtain ⟨hk, d, hd⟩ := asg f ha i m
    obtain ⟨k, hk1, hk2⟩ : ∃ k, Γ[i]? = some k ∧ k ≠ .fz := by
      rcases hk with hk | hk
      · exact ⟨_, hk, by decide⟩
      · exact ⟨_, hk, by decide⟩
    obtain ⟨a, o, z1, _⟩ := r.ow i d k hk1 hk2 hd
    exact ⟨a, z1⟩
  have kfz : ∀ i, Γ[i]? = some .fz → i ∉ slA sh := fun i hi m => by
    obtain ⟨hk, _⟩ := asg f ha i m
    rw [hi] at hk
    rcases hk with hk | hk <;> cases hk
  have x' : Ext (fun b => Own Γ σ b ∨ C.H0 b = none) F H F' H' := x.sub fun a m => by
    rcases as_ioa f h m with ⟨i, _, z⟩ | z
    · exact .inl (.inl ⟨i, z⟩)
    · exact .inl (.inr (hH a z))
  refine ⟨hs, r.ext.then x' fun c z => z.elim (r.own_io c) .inr, by rw [putA_len]; exact r.ln, r.lg, fun i hi => ?_, fun i d h1 h2 => ?_, fun i d k h1 h2 h3 => ?_, r.dj, fun p hp => ?_⟩
  · by_cases m : i ∈ slA sh
    · obtain ⟨a, d, o, _, _, _, _, q⟩ := putA_in (j := i) f h nd oo hl hr m
      rw [hi] at q; cases q
    · rw [putA_out m] at hi; exact r.no i hi
  · rw [putA_out (kfz i h1)] at h2
    obtain ⟨u, e1, e2⟩ := r.fz i d h1 h2
    exact ⟨u, e1, e2.mono x.f⟩
  · by_cases m : i ∈ slA sh
    · obtain ⟨a, d', o, q1, q2, q3, q4, q5⟩ := putA_in (j := i) f h nd oo hl hr m
      rw [h3] at q5
      cases q5
      obtain ⟨_, d0, hd0⟩ := asg f ha i m
      obtain ⟨a', o', y1, y2, y3, y4, y5, y6⟩ := r.ow i d0 k h1 h2 hd0
      rw [q1] at y1
      cases y1
      exact ⟨a, o, q1, q2, q3, q4, y5, y6⟩
    · rw [putA_out m] at h3
      obtain ⟨a, o, y1, y2, y3, y4, y5, y6⟩ := r.ow i d k h1 h2 h3
      have oi : Ow1 Γ σ i a := ⟨by
        cases k with
        | fz => exact absurd rfl h2
        | ow => exact .inl h1
        | io => exact .inr h1, y1⟩
      have na : a ∉ ioA ks vs := fun z => by
        rcases as_ioa f h z with ⟨j, z1, z2⟩ | z
        · exact m (by rw [r.dj i j a oi z2]; exact z1)
        · exact hO a ⟨i, oi⟩ z
      have h4 := x.h a o y3 na
      refine ⟨a, o, y1, ?_, h4, y4.mono x.f, y5, y6⟩
      cases ef : F' a with
      | none => rfl
      | some z =>
        rcases x.g a (by rw [ef]; simp) with z | z
        · exact absurd y2 z
        · rw [y3] at z; cases z
  · obtain ⟨q1, q2, d, q3⟩ := r.hio p hp
    refine ⟨q1, q2, ?_⟩
    by_cases m : p.1 ∈ slA sh
    · obtain ⟨a, d', o, _, _, _, _, q⟩ := putA_in (j := p.1) f h nd oo hl hr m
      exact ⟨d', q⟩
    · exact ⟨d, by rw [putA_out m]; exact q3⟩
end
/-- f(..), some of what is handed in changed: the mirror -/
def mCallH (sh : List Ah) (MF : MFn) (m : M (List D)) : M D := m.bind fun fs => fun ρ => match asmA ρ sh fs with
  | none => .no
  | some ds => match MF ds with
    | .ok d outs => .ok d (putA ρ sh outs)
    | .er x outs => .er x (putA ρ sh outs)
    | .no => .no
def rRo (S : Sg) (ro : Bool) : Rel D V := fun H F' H' d v => RtC S.C.K S.C.ct ro H F' H' d v
theorem rRo_late {S : Sg} {ro : Bool} : (rRo S ro).Late := fun H H1 F' H' d v k h => by
  cases ro with
  | false => exact h
  | true => exact RtO.late (H1 := H1) k h
/-- a result that is no pair -/
def mNP (m : M D) : M D := m.bind fun d => if isPr d = true then M.opt none else M.ret d
theorem tr_np {S : Sg} {Γ : List Kd} {m : M D} {σ : L2.St} {H : Hp} {Q : VK} (q : Tr S Γ (rO S) (mNP m) σ H Q) : Tr S Γ (rRo S true) m σ H Q := by
  obtain ⟨F, ρ, rs, q⟩ := q
  refine ⟨F, ρ, rs, ?_⟩
  unfold mNP M.bind at q
  cases e : m ρ with
  | no => rw [e] at q; exact q.elim
  | er x ρ' => rw [e] at q; exact q
  | ok d ρ' =>
    rw [e] at q
    simp only at q
    cases hp : isPr d with
    | true => rw [hp] at q; exact q.elim
    | false =>
      rw [hp] at q
      intro v F1 H1 r1 x1 rt
      exact q v F1 H1 r1 x1 (by
        obtain ⟨a, o, h⟩ := rto_inv hp rt
        exact ⟨a, o, h⟩)
section
variable {X : Cx} {S : Sg} {Γ : List Kd} {k : Nat} {f : Addr} {fd : FuncData} {ps : List Str} {x : Str} {p pos : Pos} {e : Expr} {es : List Expr} {ks : List Kd} {MF : MFn} {sh : List Ah} {ma : M (List D)} {ro : Bool}
theorem tr_h (hge : GeLe Γ S.ge) (hf : fitsA Γ ks sh = true) (nd : (slA sh).Nodup) (ht : tmA sh ≤ 1) {n : Nat} (hl : ks.length = n) {σ : L2.St} {H : Hp} {Q : VK} (q : Tr S Γ (rRo S ro) (mCallH sh MF ma) σ H Q) :
    tG n 0 (SpG S.C.K S.C.ct ks ro MF) (fun vs _ => vs) S.W (fun σ H Q => Tr S Γ (rAs S σ sh) ma σ H Q) tNil σ H Q := by
  obtain ⟨F, q⟩ := q
  obtain ⟨ρ0, rs0, _⟩ := id q
  refine ⟨F, (TrF.raw (R1 := rAs S σ sh) q).mono fun vs H1 ⟨fs, F1, ρ, r, x1, rs, h⟩ => ?_⟩
  have hO : ∀ c, Own Γ σ c → H c ≠ none := fun c z => by obtain ⟨_, o, e⟩ := rs0.own_some z; rw [e]; simp
  have hH : ∀ c, H c = none → S.C.H0 c = none := fun c z => by
    cases e : S.C.H0 c with
    | none => rfl
    | some y => exact absurd z (rs0.ext.n c (by rw [e]; simp))
  cases ea : asmA ρ sh fs with
  | none => simp only [ea] at h
  | some ds =>
    simp only [ea] at h
    have hA := as_arl rs hf r ea
    have hn := as_nodup rs hO hf r nd ht
    refine ⟨by rw [hA.len.2]; exact hl, rfl, F1, ds, rs.sub, hA, hn.1, ?_⟩
    have up : ∀ {F' H'}, Ext (fun a => a ∈ ioA ks vs) F1 H1 F' H' → Ext (Own Γ σ) F H F' H' := fun {F' H'} x2 => by
      have y1 : Ext (fun b => Own Γ σ b ∨ H b = none) F H F1 H1 := x1.sub fun b z => .inl (.inl z)
      have y2 : Ext (fun b => Own Γ σ b ∨ H b = none) F1 H1 F' H' := x2.sub fun b m => by
        rcases as_ioa hf r m with ⟨i, _, z⟩ | z
        · exact .inl (.inl ⟨i, z⟩)
        · exact .inl (.inr z)
      exact (y1.trans y2).sub fun b z => z
    cases em : MF ds with
    | no => simp only [em] at h
    | ok d outs =>
      simp only [em] at h
      intro v F' H' x2 hs rt oo
      exact h v F' H' (RS.call rs hO hf r ea nd x2 hs oo hH) (up x2) (rRo_late H H1 F' H' d v x1.n rt)
    | er z outs =>
      simp only [em] at h
      intro cl dx F' H' x2 hs rx oo
      obtain ⟨F2, sm, re⟩ := RE.le (RS.call rs hO hf r ea nd x2 hs oo hH) hge
      exact h cl dx F2 H' (x1.f.trans (x2.f.trans sm)) re (rx.mono sm)
/-- frozen result; a new object -/
theorem e_h (F : Fn cn X k f fd ps (SpG S.C.K S.C.ct ks false MF)) (hm : X.mg x = some (.ref f)) (hk : PySem.W.keepIn X.K (.ref f) = true) (hb : BnF X.K fd ps) (tk : Tkn cn X S.W) (hge : GeLe Γ S.ge) (ha : EvH X S Γ sh (e :: es) ma) (hl : ks.length = ps.length := by rfl) (hf : fitsA Γ ks sh = true := by rfl) (nd : (slA sh).Nodup := by decide) (ht : tmA sh ≤ 1 := by decide) (hg : Gl X x := by rfl)
    (hdb : (x == ("__debug__" : Str)) = false := by decide) (he : starEach (e :: es) X.env = (false, eval e X.env) :: starEach es X.env := by rfl) (hpl : (backTo pos (starEach es X.env)).any (·.1) = false := by rfl) :
    EvE X S Γ (.Call (.Name x p) (e :: es) [] pos) (mCallH sh MF ma) := pe_imp (pe_g F hm hk hb tk ha hg hdb he hpl) fun σ H Q q => tr_h (ro := false) hge hf nd ht hl q
theorem o_h (F : Fn cn X k f fd ps (SpG S.C.K S.C.ct ks true MF)) (hm : X.mg x = some (.ref f)) (hk : PySem.W.keepIn X.K (.ref f) = true) (hb : BnF X.K fd ps) (tk : Tkn cn X S.W) (hge : GeLe Γ S.ge) (ha : EvH X S Γ sh (e :: es) ma) (hl : ks.length = ps.length := by rfl) (hf : fitsA Γ ks sh = true := by rfl) (nd : (slA sh).Nodup := by decide) (ht : tmA sh ≤ 1 := by decide) (hg : Gl X x := by rfl)
    (hdb : (x == ("__debug__" : Str)) = false := by decide) (he : starEach (e :: es) X.env = (false, eval e X.env) :: starEach es X.env := by rfl) (hpl : (backTo pos (starEach es X.env)).any (·.1) = false := by rfl) :
    EvO X S Γ (.Call (.Name x p) (e :: es) [] pos) (mNP (mCallH sh MF ma)) := pe_imp (pe_g F hm hk hb tk ha hg hdb he hpl) fun σ H Q q => tr_h (ro := true) hge hf nd ht hl (tr_np q)
end
end G
/-! G13: methods of a slot's own list, stores into it, several names at once. -/
namespace G
open PySem PySem.Spec PyProof.Rows L2
/-! ### methods that change a slot's own object -/
def MtOk (K : Frag) (ct : Ct) (r : V → List V → Hp → VK → Prop) (h : D → List D → Option (D × D)) : Prop := ∀ (F H : Hp) (a : Addr) (o : HO) (d : D) (ds : List D) (vs : List V) (z d' : D) (Q : VK), F a = none → H a = some o → OwO K ct F d o → Same F H → RpL K ct F ds vs → h d ds = some (z, d') →
  (∀ v o', Rp K ct F z v → OwO K ct F d' o' → Q v (upd H a o')) → r (.ref a) vs H Q
def hAppend : D → List D → Option (D × D)
  | .lst xs, [y] => if xs.length < sizeLine then some (.non, .lst (xs ++ [y])) else none
  | _, _ => none
def hExtend : D → List D → Option (D × D)
  | .lst xs, [.lst ys] => if xs.length + ys.length ≤ sizeLine then some (.non, .lst (xs ++ ys)) else none
  | _, _ => none
def hPop : D → List D → Option (D × D)
  | .lst xs, [] => (xs[xs.length - 1]?).map fun y => (y, .lst xs.dropLast)
  | _, _ => none
def hPopAt : D → List D → Option (D × D)
  | .lst xs, [.int i] => if -(2 ^ 63) ≤ i ∧ i < 2 ^ 63 then (seqIndex? i xs.length).bind fun k => (xs[k]?).map fun y => (y, .lst (xs.eraseIdx k)) else none
  | _, _ => none
theorem owo_lst {K : Frag} {ct : Ct} {F : Hp} {xs : List D} {o : HO} (h : OwO K ct F (.lst xs) o) : ∃ vs, o = .lst vs ∧ RpL K ct F xs vs := by
  generalize e : D.lst xs = d at h
  cases h with
  | lst h => cases e; exact ⟨_, rfl, h⟩
  | dK _ _ => cases e
  | dT _ _ => cases e
  | dti _ _ => cases e
  | dL _ _ => cases e
  | ins _ _ => cases e
section
variable {K : Frag} {ct : Ct}
theorem mk_append : MtOk K ct rAppend hAppend := by
  intro F H a o d ds vs z d' Q hf ha ho hs r e q
  unfold hAppend at e
  split at e
  · split at e
    · rename_i hz
      cases e
      obtain ⟨ws, rfl, h⟩ := owo_lst ho
      obtain ⟨v, w, rfl, r1, r2⟩ := rpl_cons.mp r
      rw [rpl_nil.mp r2]
      exact ⟨a, ws, v, rfl, rfl, ha, by rw [← h.length]; exact hz, q _ _ (rp_non.mpr rfl) (.lst (h.append (.one r1)))⟩
    · cases e
  · cases e
end
def mMt (i : Nat) (h : D → List D → Option (D × D)) (ms : M (List D)) : M D := (mV i).bind fun _ => ms.bind fun ds => fun ρ => match ρ[i]? with
  | some (some d) => match h d ds with
    | some (z, d') => .ok z (ρ.set i (some d'))
    | none => .no
  | _ => .no
section
variable {X : Cx} {S : Sg} {Γ : List Kd}
theorem sqL_own {K : Frag} {ct : Ct} {F H : Hp} {xs : List D} {a : Addr} {o : HO} (ha : H a = some o) (h : OwO K ct F (.lst xs) o) : ∃ vs, SqL K H a vs := by
  obtain ⟨ws, rfl, _⟩ := owo_lst h
  exact ⟨ws, SqL.of ha⟩
/-- the receiver is a slot's own list -/
def isLst : D → Bool
  | .lst _ => true
  | _ => false
def mMl (i : Nat) (h : D → List D → Option (D × D)) (ms : M (List D)) : M D := fun ρ => match ρ[i]? with
  | some (some d) => if isLst d = true then mMt i h ms ρ else .no
  | _ => .no
theorem tr_mt {i : Nat} {k : Kd} {h : D → List D → Option (D × D)} {ms : M (List D)} {r : V → List V → Hp → VK → Prop} (hk : Γ[i]? = some k) (hn : k ≠ .fz) (hr : MtOk S.C.K S.C.ct r h) {σ : L2.St} {H : Hp} {Q : VK} (q : Tr S Γ (rD S) (mMl i h ms) σ H Q) :
    tBM S.C.K "list" r (tVar i) (Tr S Γ (rL S) ms) σ H Q := by
  obtain ⟨F, ρ, rs, q⟩ := q
  unfold mMl at q
  cases e : ρ[i]? with
  | none => rw [e] at q; exact q.elim
  | some y =>
    cases y with
    | none => rw [e] at q; exact q.elim
    | some d =>
      rw [e] at q
      simp only at q
      cases hl : isLst d with
      | false => rw [hl] at q; exact (show False from q).elim
      | true =>
        rw [hl] at q
        obtain ⟨a, o, h1, h2, h3, h4, _⟩ := rs.ow i d k hk hn e
        have hl' : ∃ xs, d = .lst xs := by cases d <;> simp [isLst] at hl; exact ⟨_, rfl⟩
        obtain ⟨xs, rfl⟩ := hl'
        refine ⟨.ref a, h1, .inl ⟨rfl, sqL_own h3 h4⟩, F, ?_⟩
        have q' : TrF S Γ (rD S) (ms.bind fun ds => fun ρ => match ρ[i]? with
          | some (some d) => match h d ds with
            | some (z, d') => .ok z (ρ.set i (some d'))
            | none => .no
          | _ => .no) F σ H Q := by
          refine ⟨ρ, rs, ?_⟩
          have e0 : mMt i h ms ρ = (ms.bind fun ds => fun ρ => match ρ[i]? with
            | some (some d) => match h d ds with
              | some (z, d') => .ok z (ρ.set i (some d'))
              | none => .no
            | _ => .no) ρ := by
            unfold mMt mV
            show M.bind _ _ ρ = _
            unfold M.bind
            simp only [e]
          rw [← e0]
          exact q
        refine (TrF.bind (R1 := rL S) rD_late q').mono fun vs H1 ⟨ds, F1, r1, x1, q⟩ => ?_
        obtain ⟨ρ1, rs1, q⟩ := q
        simp only at q
        cases e1 : ρ1[i]? with
        | none => rw [e1] at q; exact q.elim
        | some y =>
          cases y with
          | none => rw [e1] at q; exact q.elim
          | some d1 =>
            rw [e1] at q
            simp only at q
            cases e2 : h d1 ds with
            | none => rw [e2] at q; exact q.elim
            | some zd =>
              obtain ⟨z, d'⟩ := zd
              rw [e2] at q
              obtain ⟨b, o1, z1, z2, z3, z4, _⟩ := rs1.ow i d1 k hk hn e1
              rw [h1] at z1
              cases z1
              have ow : Ow1 Γ σ i a := ⟨by
                cases k with
                | fz => exact absurd rfl hn
                | ow => exact .inl hk
                | io => exact .inr hk, h1⟩
              refine hr F1 H1 a o1 d1 ds vs z d' Q z2 z3 z4 rs1.sub r1 e2 fun v o' rz ro => ?_
              exact q v F1 (upd H1 a o') (rs1.write ow ro) (Ext.wr ⟨i, ow⟩) rz
theorem e_mt {i : Nat} {k : Kd} {id : String} {name : Str} {h : D → List D → Option (D × D)} {ms : M (List D)} {r : V → List V → Hp → VK → Prop} {o e : Expr} {es : List Expr} {apos cpos : Pos} (slot : Slot "list" name id) (hty : typeOf (.builtin id) = pure (.type "method_descriptor")) (hm : MtR X id r) (hr : MtOk S.C.K S.C.ct r h) (ho : PE X o (tVar i)) (ha : EvA X S Γ (e :: es) ms) (hk : Γ[i]? = some k) (hn : k ≠ .fz) (hK : S.C.K = X.K)
    (hbase : attributeBase o name X.env (eval o X.env) = eval o X.env := by rfl)
    (hfew : ((backTo cpos (starEach (e :: es) X.env)).all (fun x => !x.1) && (backToKw cpos (keywordEach [] X.env)).all (fun x => x.1.isSome) && decide ((e :: es).length + ([] : List Keyword).length + (if ([] : List Keyword).isEmpty then 0 else 1) < 30)) = true := by rfl)
    (hline : (apos.endLine == cpos.line) = true := by rfl) (hs : starEach (e :: es) X.env = (false, eval e X.env) :: starEach es X.env := by rfl) (hplain : (backTo cpos (starEach es X.env)).any (·.1) = false := by rfl) :
    EvE X S Γ (.Call (.Attribute o name apos) (e :: es) [] cpos) (mMl i h ms) := pe_imp (pe_bm F.plainAttrs_list slot hty hm ho ha hbase hfew hline hs hplain) fun σ H Q q => by
  rw [← hK]
  exact tr_mt hk hn hr q
end
/-! ### stores -/
def TgW (S : Sg) (Γ Γ' : List Kd) (g : MG) : TG := fun v σ H Q => ∃ F ρ d ρ', RS S.C Γ F ρ σ H ∧ Rp S.C.K S.C.ct F d v ∧ g d ρ = some ρ' ∧ ∀ σ' F' H', Same F F' → RS S.C Γ' F' ρ' σ' H' → Q σ' H'
def TgWs (S : Sg) (Γ Γ' : List Kd) (g : MGs) : TGs := fun vs σ H Q => ∃ F ρ ds ρ', RS S.C Γ F ρ σ H ∧ RpL S.C.K S.C.ct F ds vs ∧ g ds ρ = some ρ' ∧ ∀ σ' F' H', Same F F' → RS S.C Γ' F' ρ' σ' H' → Q σ' H'
def EvGW (X : Cx) (S : Sg) (Γ Γ' : List Kd) (e : Expr) (g : MG) : Prop := PG X e (TgW S Γ Γ' g)
def EvGWs (X : Cx) (S : Sg) (Γ Γ' : List Kd) (e : List Expr) (g : MGs) : Prop := PGs X e (TgWs S Γ Γ' g)
section
variable {X : Cx} {S : Sg} {Γ Γ' Γ1 : List Kd} {pos : Pos}
theorem gw_of {is : List Nat} {e : Expr} {g : MG} (h : EvG X S Γ Γ' is e g) : EvGW X S Γ Γ' e g := pg_imp h fun v σ H Q ⟨F, ρ, d, ρ', rs, r, e, q⟩ => ⟨F, ρ, d, ρ', rs, r, e, fun σ' _ rs' => q σ' F H (Same.refl _) rs'⟩
theorem gw_nil : EvGWs X S Γ Γ [] gE := pgs_imp pgs_nil fun vs σ H Q ⟨F, ρ, ds, ρ', rs, r, e, q⟩ => by
  cases ds with
  | nil =>
    simp only [gE] at e
    cases e
    exact ⟨rpl_nil.mp r, q _ F H (Same.refl _) rs⟩
  | cons d r => simp only [gE] at e; cases e
theorem gw_cons {e : Expr} {es : List Expr} {g : MG} {gs : MGs} (h1 : EvGW X S Γ Γ1 e g) (h2 : EvGWs X S Γ1 Γ' es gs) (hs : (assignEach (e :: es) X.env).map (·.2) = assign e X.env :: (assignEach es X.env).map (·.2) := by rfl) : EvGWs X S Γ Γ' (e :: es) (gC g gs) :=
  pgs_imp (pgs_cons h1 h2 hs) fun vs σ H Q ⟨F, ρ, ds, ρ', rs, r, e, q⟩ => by
    cases ds with
    | nil => simp only [gC] at e; cases e
    | cons d ds =>
      simp only [gC] at e
      obtain ⟨ρ1, e1, e2⟩ := Option.bind_eq_some_iff.mp e
      obtain ⟨v, vr, rfl, r1, r2⟩ := rpl_cons.mp r
      exact ⟨v, vr, rfl, F, ρ, d, ρ1, rs, r1, e1, fun σ1 F1 H1 s1 rs1 => ⟨F1, ρ1, ds, ρ', rs1, r2.mono s1, e2, fun σ2 F2 H2 s2 rs2 => q σ2 F2 H2 (s1.trans s2) rs2⟩⟩
theorem gw_tup {es : List Expr} {k : Nat} {gs : MGs} {n : Nat} (hc : X.calm = true) (h : EvGWs X S Γ Γ' es gs) (hK : S.C.K = X.K) (hn : (assignEach es X.env).length = n := by rfl) (hst : (assignEach es X.env).findIdx? (·.1) = none := by rfl) :
    EvGW X S Γ Γ' (.Tuple es k pos) (gT n gs) := pg_imp (pg_tup hc h hn hst) fun v σ H Q ⟨F, ρ, d, ρ', rs, r, e, q⟩ => by
  cases d <;> simp only [gT] at e <;> try (cases e; done)
  split at e
  · rename_i hl
    obtain ⟨a, vs, rfl, h1, h2⟩ := rp_tup.mp r
    exact ⟨a, vs, rfl, by rw [← hK]; exact same_t rs.sub h1, by rw [← h2.length]; exact hl, F, ρ, _, ρ', rs, h2, e, q⟩
  · cases e
/-- slot[k] = -/
def gSb (i : Nat) (mi : M D) : MG := fun d ρ => match ρ[i]? with
  | some (some _) => match mi ρ with
    | .ok (.int k) ρ1 => match ρ1[i]? with
      | some (some (.lst xs)) => (ixN xs.length k).map fun j => ρ1.set i (some (.lst (xs.set j d)))
      | _ => none
    | _ => none
  | _ => none
theorem gw_sub {i : Nat} {kd : Kd} {o ix : Expr} {mi : M D} (ho : PE X o (tVar i)) (hi : EvE X S Γ ix mi) (hk : Γ[i]? = some kd) (hn : kd ≠ .fz)
    (ha : ∀ v, assign (.Subscript o ix pos) X.env v = (do
      let ov ← holding [v] (eval o X.env)
      let iv ← holding [v, ov] (eval ix X.env)
      standAt pos
      holding [v, ov, iv] (setItem ov iv v)
      release [v, ov, iv] []) := by intro _; rfl) : EvGW X S Γ Γ (.Subscript o ix pos) (gSb i mi) := pg_imp (pg_sub ho hi set_list ha) fun v σ H Q ⟨F, ρ, d, ρ', rs, r, e, q⟩ => by
  unfold gSb at e
  have ⟨d0, hd0, e⟩ : ∃ d0, ρ[i]? = some (some d0) ∧ (match mi ρ with
    | .ok (.int k) ρ1 => match ρ1[i]? with
      | some (some (.lst xs)) => (ixN xs.length k).map fun j => ρ1.set i (some (.lst (xs.set j d)))
      | _ => none
    | _ => none) = some ρ' := by
    cases e0 : ρ[i]? with
    | none => rw [e0] at e; cases e
    | some y =>
      cases y with
      | none => rw [e0] at e; cases e
      | some d0 => rw [e0] at e; exact ⟨d0, rfl, e⟩
  cases e1 : mi ρ with
  | no => rw [e1] at e; cases e
  | er x ρ1 => rw [e1] at e; cases e
  | ok di ρ1 =>
    rw [e1] at e
    cases di <;> simp only at e <;> try (cases e; done)
    rename_i kk
    cases e2 : ρ1[i]? with
    | none => rw [e2] at e; cases e
    | some y =>
      cases y with
      | none => rw [e2] at e; cases e
      | some d1 =>
        rw [e2] at e
        cases d1 <;> simp only at e <;> try (cases e; done)
        rename_i xs
        obtain ⟨j, e3, e4⟩ := Option.map_eq_some_iff.mp e
        subst e4
        obtain ⟨u0, hu0, _⟩ := RS.rv rs hd0
        refine ⟨u0, hu0, F, ρ, rs, ?_⟩
        rw [e1]
        intro iv F1 H1 rs1 x1 ri
        obtain ⟨a, o, z1, z2, z3, z4, _⟩ := rs1.ow i _ kd hk hn e2
        obtain ⟨ws, rfl, hw⟩ := owo_lst z4
        rw [hu0] at z1
        cases z1
        have ow : Ow1 Γ σ i a := ⟨by
          cases kd with
          | fz => exact absurd rfl hn
          | ow => exact .inl hk
          | io => exact .inr hk, hu0⟩
        refine ⟨a, ws, kk, j, rfl, rp_int.mp ri, z3, by rw [← hw.length]; exact e3, ?_⟩
        exact q σ F1 _ x1.f (rs1.write ow (.lst (hw.set (r.mono x1.f) j)))
end
end G
/-! G14: target = value with stores; several names at once, some to new objects. -/
namespace G
open PySem PySem.Spec PyProof.Rows L2
section
variable {X : Cx} {S : Sg} {Γ Γ' Γ1 : List Kd} {pos : Pos}
theorem s_asgW {tg e : Expr} {m : M D} {g : MG} (he : EvE X S Γ e m) (hg : EvGW X S Γ Γ' tg g) (hs : swapsWithSole [tg] e pos.line X.env = pure false := by rfl) (hw : swappedStores [tg] e X.env = pure none := by rfl) (h1 : (assignEach [tg] X.env).map (·.2) = [assign tg X.env] := by rfl) :
    EvS X S Γ Γ' (.Assign [tg] e pos) (mAsg g m) := ps_imp (ps_asg he hg hs hw h1) fun D σ H h => by
  refine (Ts.of (R := rD S) h).mono fun v H1 ⟨d, F1, ρ1, q, _, rs, h⟩ => ?_
  cases e : g d ρ1 with
  | none => rw [e] at h; exact h.elim
  | some ρ2 =>
    rw [e] at h
    exact ⟨F1, ρ1, d, ρ2, rs, q, e, fun σ' F' H' sm rs' => h σ' F' H' sm rs'⟩
end
/-! ### values, some of them new objects -/
def owAd : List Bool → List V → List Addr
  | true :: bs, .ref a :: vs => a :: owAd bs vs
  | _ :: bs, _ :: vs => owAd bs vs
  | _, _ => []
def PnR (K : Frag) (ct : Ct) (F H : Hp) (no : Addr → Prop) : List Bool → List D → List V → Prop
  | [], ds, vs => ds = [] ∧ vs = []
  | false :: bs, ds, vs => ∃ d ds' v vs', ds = d :: ds' ∧ vs = v :: vs' ∧ Rp K ct F d v ∧ PnR K ct F H no bs ds' vs'
  | true :: bs, ds, vs => ∃ d ds' a vs' o, ds = d :: ds' ∧ vs = .ref a :: vs' ∧ no a ∧ F a = none ∧ H a = some o ∧ OwO K ct F d o ∧ (∀ b ∈ owAd bs vs', b ≠ a) ∧ PnR K ct F H no bs ds' vs'
def rPn (S : Sg) (bs : List Bool) : Rel (List D) (List V) := fun Hs F H ds vs => PnR S.C.K S.C.ct F H (fun a => Hs a = none) bs ds vs
section
variable {K : Frag} {ct : Ct} {F F' H H' : Hp} {no no' : Addr → Prop}
theorem PnR.imp (k : ∀ a, no a → no' a) : ∀ {bs : List Bool} {ds : List D} {vs : List V}, PnR K ct F H no bs ds vs → PnR K ct F H no' bs ds vs
  | [], _, _, h => h
  | false :: bs, ds, vs, h => by obtain ⟨d, ds', v, vs', e1, e2, r, h⟩ := h; exact ⟨d, ds', v, vs', e1, e2, r, h.imp k⟩
  | true :: bs, ds, vs, h => by obtain ⟨d, ds', a, vs', o, e1, e2, q0, q1, q2, q3, q4, h⟩ := h; exact ⟨d, ds', a, vs', o, e1, e2, k _ q0, q1, q2, q3, q4, h.imp k⟩
theorem PnR.ad : ∀ {bs : List Bool} {ds : List D} {vs : List V} {b : Addr}, PnR K ct F H no bs ds vs → b ∈ owAd bs vs → no b
  | [], _, _, b, h, m => by obtain ⟨rfl, rfl⟩ := h; simp [owAd] at m
  | false :: bs, ds, vs, b, h, m => by
    obtain ⟨d, ds', v, vs', rfl, rfl, r, h⟩ := h
    have m' : b ∈ owAd bs vs' := by cases v <;> exact m
    exact h.ad m'
  | true :: bs, ds, vs, b, h, m => by
    obtain ⟨d, ds', a, vs', o, rfl, rfl, q0, q1, q2, q3, q4, h⟩ := h
    simp only [owAd, List.mem_cons] at m
    rcases m with rfl | m
    · exact q0
    · exact h.ad m
theorem PnR.len : ∀ {bs : List Bool} {ds : List D} {vs : List V}, PnR K ct F H no bs ds vs → ds.length = bs.length ∧ vs.length = bs.length
  | [], _, _, h => by obtain ⟨rfl, rfl⟩ := h; exact ⟨rfl, rfl⟩
  | false :: bs, ds, vs, h => by obtain ⟨d, ds', v, vs', rfl, rfl, r, h⟩ := h; have := h.len; simp [this.1, this.2]
  | true :: bs, ds, vs, h => by obtain ⟨d, ds', a, vs', o, rfl, rfl, q0, q1, q2, q3, q4, h⟩ := h; have := h.len; simp [this.1, this.2]
/-- one more object in the heap -/
theorem PnR.newH {p : Addr} {ob : HO} (hp : H p = none) : ∀ {bs : List Bool} {ds : List D} {vs : List V}, PnR K ct F H no bs ds vs → PnR K ct F (upd H p ob) no bs ds vs
  | [], _, _, h => h
  | false :: bs, ds, vs, h => by obtain ⟨d, ds', v, vs', e1, e2, r, h⟩ := h; exact ⟨d, ds', v, vs', e1, e2, r, h.newH hp⟩
  | true :: bs, ds, vs, h => by obtain ⟨d, ds', a, vs', o, e1, e2, q0, q1, q2, q3, q4, h⟩ := h; exact ⟨d, ds', a, vs', o, e1, e2, q0, q1, by rw [upd_ne (ne_of_none q2 hp)]; exact q2, q3, q4, h.newH hp⟩
end
def EvM (X : Cx) (S : Sg) (Γ : List Kd) (bs : List Bool) (es : List Expr) (m : M (List D)) : Prop := PA X es (Tr S Γ (rPn S bs) m)
section
variable {X : Cx} {S : Sg} {Γ Γ' Γ1 : List Kd} {pos : Pos}
theorem v_nil : EvM X S Γ [] [] mNil := pa_imp pa_nil fun σ H Q ⟨F, h⟩ => h.ret0 ⟨rfl, rfl⟩
theorem v_fz {bs : List Bool} {e : Expr} {es : List Expr} {m : M D} {n : M (List D)} (h : EvE X S Γ e m) (h' : EvM X S Γ bs es n) (hs : starEach (e :: es) X.env = (false, eval e X.env) :: starEach es X.env := by rfl) : EvM X S Γ (false :: bs) (e :: es) (mCons m n) := pa_imp (pa_cons h h' hs) fun σ H Q ⟨F, q⟩ => by
  refine ⟨F, (TrF.bindK (R1 := rD S) q).mono fun v H1 ⟨d, F1, r, x1, q⟩ => ⟨F1, (TrF.bindK (R1 := rPn S bs) q).mono fun w H2 ⟨e, F2, q2, x2, h⟩ => ?_⟩⟩
  refine h.ret0 ⟨d, e, v, w, rfl, rfl, Rp.mono x2.f r, PnR.imp (fun a z => ?_) q2⟩
  cases e0 : H a with
  | none => rfl
  | some y => exact absurd z (x1.n a (by rw [e0]; simp))
theorem v_ow {bs : List Bool} {e : Expr} {es : List Expr} {m : M D} {n : M (List D)} (h : EvO X S Γ e m) (h' : EvM X S Γ bs es n) (hs : starEach (e :: es) X.env = (false, eval e X.env) :: starEach es X.env := by rfl) : EvM X S Γ (true :: bs) (e :: es) (mCons m n) := pa_imp (pa_cons h h' hs) fun σ H Q ⟨F, q⟩ => by
  obtain ⟨ρ0, rs0, _⟩ := id q
  refine ⟨F, (TrF.bindK (R1 := rO S) q).mono fun v H1 ⟨d, F1, r, x1, q⟩ => ⟨F1, (TrF.bindK (R1 := rPn S bs) q).mono fun w H2 ⟨e, F2, q2, x2, h⟩ => ?_⟩⟩
  obtain ⟨a, o, rfl, z1, z2, z3, z4⟩ := r
  have nO : ¬ Own Γ σ a := fun z => by
    obtain ⟨_, o', z⟩ := rs0.own_some z
    rw [z1] at z; cases z
  refine h.ret0 ⟨d, e, a, w, o, rfl, rfl, z1, ?_, x2.h a o z3 nO, z4.mono x2.f, fun b hb z => ?_, PnR.imp (fun b z => ?_) q2⟩
  · cases ef : F2 a with
    | none => rfl
    | some y =>
      rcases x2.g a (by rw [ef]; simp) with z | z
      · exact absurd z2 z
      · rw [z3] at z; cases z
  · have := PnR.ad q2 hb
    rw [z, z3] at this; cases this
  · cases e0 : H b with
    | none => rfl
    | some y => exact absurd z (x1.n b (by rw [e0]; simp))
/-! ### the slots take them -/
def kdB (b : Bool) : Kd := if b = true then .ow else .fz
def setE : Env → List Nat → List D → Env
  | ρ, i :: is, d :: ds => setE (ρ.set i (some d)) is ds
  | ρ, _, _ => ρ
def setV : L2.St → List Nat → List V → L2.St
  | σ, i :: is, v :: vs => setV (σ.set i (some v)) is vs
  | σ, _, _ => σ
def setK : List Kd → List Nat → List Bool → List Kd
  | Γ, i :: is, b :: bs => setK (Γ.set i (kdB b)) is bs
  | Γ, _, _ => Γ
def kOk (Γ : List Kd) : List Nat → Bool
  | [] => true
  | i :: is => (match Γ[i]? with
    | some .io => false
    | none => false
    | _ => true) && kOk Γ is
theorem kOk_set {i : Nat} {k : Kd} (hk : k ≠ .io) : ∀ {is : List Nat} {Γ : List Kd}, kOk Γ is = true → kOk (Γ.set i k) is = true
  | [], _, _ => rfl
  | j :: is, Γ, h => by
    simp only [kOk, Bool.and_eq_true] at h ⊢
    refine ⟨?_, kOk_set hk h.2⟩
    by_cases z : i = j
    · subst z
      have hl : i < Γ.length := by
        cases e : Γ[i]? with
        | none => rw [e] at h; cases h.1
        | some y => exact (List.getElem?_eq_some_iff.mp e).1
      rw [List.getElem?_set_self hl]
      cases k with
      | io => exact absurd rfl hk
      | fz => rfl
      | ow => rfl
    · rw [List.getElem?_set_ne z]; exact h.1
theorem RS.setAll {C : Fx} {F H : Hp} : ∀ {bs : List Bool} {is : List Nat} {ds : List D} {vs : List V} {Γ : List Kd} {ρ : Env} {σ : L2.St}, RS C Γ F ρ σ H → kOk Γ is = true → is.length = bs.length → PnR C.K C.ct F H (fun a => C.H0 a = none) bs ds vs → (∀ a ∈ owAd bs vs, ¬ Own Γ σ a) → RS C (setK Γ is bs) F (setE ρ is ds) (setV σ is vs) H
  | [], [], ds, vs, Γ, ρ, σ, r, _, _, h, _ => by obtain ⟨rfl, rfl⟩ := h; exact r
  | [], _ :: _, _, _, _, _, _, _, _, l, _, _ => by simp at l
  | _ :: _, [], _, _, _, _, _, _, _, l, _, _ => by simp at l
  | b :: bs, i :: is, ds, vs, Γ, ρ, σ, r, hk, l, h, nO => by
    simp only [kOk, Bool.and_eq_true] at hk
    obtain ⟨hk1, hk2⟩ := hk
    have hki : ∃ k, Γ[i]? = some k ∧ k ≠ .io := by
      cases e : Γ[i]? with
      | none => rw [e] at hk1; cases hk1
      | some k => exact ⟨k, rfl, fun z => by subst z; rw [e] at hk1; cases hk1⟩
    cases b with
    | false =>
      obtain ⟨d, ds', v, vs', rfl, rfl, rd, h⟩ := h
      refine RS.setAll (bs := bs) (is := is) (r.setF hki rd) (kOk_set (by decide) hk2) (by simpa using l) h fun a m z => ?_
      have m' : a ∈ owAd (false :: bs) (v :: vs') := by cases v <;> exact m
      refine nO a m' ?_
      obtain ⟨j, z1, z2⟩ := z
      by_cases zz : i = j
      · subst zz
        rw [List.getElem?_set_self (List.getElem?_eq_some_iff.mp hki.choose_spec.1).1] at z1
        rcases z1 with z1 | z1 <;> cases z1
      · rw [List.getElem?_set_ne zz] at z1 z2
        exact ⟨j, z1, z2⟩
    | true =>
      obtain ⟨d, ds', a, vs', o, rfl, rfl, q0, q1, q2, q3, q4, h⟩ := h
      refine RS.setAll (bs := bs) (is := is) (r.setO hki q3 q1 q2 q0 (nO a (by simp [owAd]))) (kOk_set (by decide) hk2) (by simpa using l) h fun b m z => ?_
      obtain ⟨j, z1, z2⟩ := z
      by_cases zz : i = j
      · subst zz
        have hl : i < σ.length := by rw [← r.lg]; exact (List.getElem?_eq_some_iff.mp hki.choose_spec.1).1
        rw [List.getElem?_set_self hl] at z2
        cases z2
        exact q4 _ m rfl
      · rw [List.getElem?_set_ne zz] at z1 z2
        exact nO b (by simp [owAd, m]) ⟨j, z1, z2⟩
def mPar (is : List Nat) (m : M (List D)) : MS := .of m fun ds ρ => .nx (setE ρ is ds)
/-- what follows the values, from the whole statement -/
theorem par_core {bs : List Bool} {is : List Nat} {m : M (List D)} {D : Ends} {σ : L2.St} {H : Hp} (hk : kOk Γ is = true) (hl : is.length = bs.length) (h : Ts S Γ (setK Γ is bs) (mPar is m) D σ H) :
    Tr S Γ (rPn S bs) m σ H fun vs H1 => vs.length = bs.length ∧ D.nx (setV σ is vs) H1 ∧ ∀ p ob, H1 p = none → D.nx (setV σ is vs) (upd H1 p ob) := by
  obtain ⟨F, ρ, rs0, h⟩ := h
  refine ⟨F, (TsF.of (R := rPn S bs) rs0 h).mono fun vs H1 ⟨ds, F1, ρ1, q, x1, rs, h⟩ => ?_⟩
  have nO : ∀ a ∈ owAd bs vs, ¬ Own Γ σ a := fun a m z => by
    obtain ⟨_, o', z⟩ := rs0.own_some z
    have := PnR.ad q m
    rw [this] at z; cases z
  have q' : PnR S.C.K S.C.ct F1 H1 (fun a => S.C.H0 a = none) bs ds vs := PnR.imp (fun a z => by
    cases e0 : S.C.H0 a with
    | none => rfl
    | some y => exact absurd z (rs0.ext.n a (by rw [e0]; simp))) q
  refine ⟨q.len.2, h _ F1 H1 (Same.refl _) (RS.setAll rs hk hl q' nO), fun p ob hp => ?_⟩
  exact h _ F1 _ (Same.refl _) (RS.setAll (rs.newH hp) hk hl (q'.newH hp) nO)
/-- two names, stored from the right -/
theorem s_par2 {i j : Nat} {x y : Str} {a b : Expr} {m : M (List D)} {px py pt : Pos} {kt k2 pt2} {ba bb : Bool} (hc : X.calm = true) (hN : X.N.Nodup) (ha : EvM X S Γ [ba, bb] [a, b] m) (hi : X.N[i]? = some x) (hj : X.N[j]? = some y) (hij : i ≠ j)
    (hx : X.env.scope.names.lookup x = some .local) (hy : X.env.scope.names.lookup y = some .local) (hk : kOk Γ [i, j] = true := by rfl)
    (hw : swappedStores [.Tuple [.Name x px, .Name y py] kt pt] (.Tuple [a, b] k2 pt2) X.env = pure (some [x, y]) := by rfl)
    (hs : swapsWithSole [.Tuple [.Name x px, .Name y py] kt pt] (.Tuple [a, b] k2 pt2) pos.line X.env = pure false := by rfl) :
    EvS X S Γ (setK Γ [i, j] [ba, bb]) (.Assign [.Tuple [.Name x px, .Name y py] kt pt] (.Tuple [a, b] k2 pt2) pos) (mPar [i, j] m) := ps_imp (ps_par hc hN hi hj hij hx hy ha hw hs) fun D σ H h => by
  refine (par_core hk rfl h).mono fun vs H1 ⟨hl, q, _⟩ => ?_
  match vs, hl with
  | [v, w], _ => exact ⟨v, w, rfl, q⟩
/-- three names, stored from the right -/
theorem ps_par3 {i j k : Nat} {x y z : Str} {a b c : Expr} {ta : TA} {px py pz pt : Pos} {kt k2 pt2} (hc : X.calm = true) (hN : X.N.Nodup) (hi : X.N[i]? = some x) (hj : X.N[j]? = some y) (hk : X.N[k]? = some z) (hij : i ≠ j) (hik : i ≠ k) (hjk : j ≠ k)
    (hx : X.env.scope.names.lookup x = some .local) (hy : X.env.scope.names.lookup y = some .local) (hz : X.env.scope.names.lookup z = some .local) (ha : PA X [a, b, c] ta)
    (hw : swappedStores [.Tuple [.Name x px, .Name y py, .Name z pz] kt pt] (.Tuple [a, b, c] k2 pt2) X.env = pure (some [x, y, z]))
    (hs : swapsWithSole [.Tuple [.Name x px, .Name y py, .Name z pz] kt pt] (.Tuple [a, b, c] k2 pt2) pos.line X.env = pure false) :
    PS X (.Assign [.Tuple [.Name x px, .Name y py, .Name z pz] kt pt] (.Tuple [a, b, c] k2 pt2) pos) (fun D σ H => ta σ H fun vs H1 => ∃ u v w, vs = [u, v, w] ∧ D.nx (((σ.set i (some u)).set j (some v)).set k (some w)) H1) := by
  refine ⟨fun pins s σ H D I h => ?_⟩
  rw [exec_Assign_arm]
  refine wpAny_bind (wpAny_standAt ?_)
  rw [hs]
  refine wpAny_bind (wpAny_pure ?_)
  rw [if_neg (by decide)]
  refine wpAny_bind (Tuple_ (thn (ha.run _ pins s σ H _ I h) fun us s1 ⟨vs, H1, I1, r1, q1⟩ => ?_))
  obtain ⟨u, v, w, e1, q1⟩ := q1
  subst e1
  obtain ⟨u1, u2, u3, rfl, ru, rv, rw'⟩ : ∃ u1 u2 u3, us = [u1, u2, u3] ∧ RelV u u1 ∧ RelV v u2 ∧ RelV w u3 := by
    cases r1 with
    | cons p q =>
      cases q with
      | cons p' q' =>
        cases q' with
        | cons p2 q2 =>
          cases q2
          exact ⟨_, _, _, rfl, p, p', p2⟩
  refine wpAny_newObj_type ?_ (by show 3 ≤ sizeLine; decide)
  have I2 : Inv X pins σ H1 { s1 with heap := s1.heap.push { cls := .type "tuple", data := .seq [u1, u2, u3].toArray } } := I1.kept (t' := s1.toks) fun b o e => Heap.get?_push_of_some _ e
  rw [hw]
  refine wpAny_bind (wpAny_pure ?_)
  show wpAny (model X.prog X.w) X.A (do rule "assign.swapped-stores"; let items ← unpackItems (.ref s1.heap.objs.size) 3 none; assignInOrder [fun v => bindName X.env z v, fun v => bindName X.env y v, fun v => bindName X.env x v] items.reverse; pure Flow.next) _ _ _
  refine wpAny_bind (wpAny_rule (wpAny_bind (unpackItems_tuple (items := #[u1, u2, u3]) (I.ok.hd hc) (IsTup.new s1.heap _) fun h' hx' => ?_)))
  have I3 := I2.kept (h' := h') (t' := s1.toks) fun b o e => hx' b o (Nat.ne_of_lt (Heap.lt_size e)) e
  show wpAny _ _ (assignInOrder [fun v => bindName X.env z v, fun v => bindName X.env y v, fun v => bindName X.env x v] [u3, u2, u1] >>= fun _ => pure Flow.next) _ _ _
  refine wpAny_bind (assignInOrder_cons (wpAny_bindName (store_ok I3 hN hk (.inl hz) rw' (fun s2 I4 => ?_) (.inr hz))))
  refine assignInOrder_cons (wpAny_bindName (store_ok I4 hN hj (.inl hy) rv (fun s3 I5 => ?_) (.inr hy)))
  refine assignInOrder_cons (wpAny_bindName (store_ok I5 hN hi (.inl hx) ru (fun s4 I6 => assignInOrder_nil (wpAny_pure ?_)) (.inr hx)))
  have e : ((σ.set k (some w)).set j (some v)).set i (some u) = ((σ.set i (some u)).set j (some v)).set k (some w) := by
    rw [List.set_comm _ _ (Ne.symm hij), List.set_comm _ _ (Ne.symm hik), List.set_comm _ _ (Ne.symm hjk)]
  rw [e] at I6
  exact ⟨_, H1, I6, q1⟩
theorem s_par3 {i j k : Nat} {x y z : Str} {a b c : Expr} {m : M (List D)} {px py pz pt : Pos} {kt k2 pt2} {ba bb bc : Bool} (hc : X.calm = true) (hN : X.N.Nodup) (ha : EvM X S Γ [ba, bb, bc] [a, b, c] m) (hi : X.N[i]? = some x) (hj : X.N[j]? = some y) (hz : X.N[k]? = some z) (hij : i ≠ j) (hik : i ≠ k) (hjk : j ≠ k)
    (hx : X.env.scope.names.lookup x = some .local) (hy : X.env.scope.names.lookup y = some .local) (hzl : X.env.scope.names.lookup z = some .local) (hk : kOk Γ [i, j, k] = true := by rfl)
    (hw : swappedStores [.Tuple [.Name x px, .Name y py, .Name z pz] kt pt] (.Tuple [a, b, c] k2 pt2) X.env = pure (some [x, y, z]) := by rfl)
    (hs : swapsWithSole [.Tuple [.Name x px, .Name y py, .Name z pz] kt pt] (.Tuple [a, b, c] k2 pt2) pos.line X.env = pure false := by rfl) :
    EvS X S Γ (setK Γ [i, j, k] [ba, bb, bc]) (.Assign [.Tuple [.Name x px, .Name y py, .Name z pz] kt pt] (.Tuple [a, b, c] k2 pt2) pos) (mPar [i, j, k] m) := ps_imp (ps_par3 hc hN hi hj hz hij hik hjk hx hy hzl ha hw hs) fun D σ H h => by
  refine (par_core hk rfl h).mono fun vs H1 ⟨hl, q, _⟩ => ?_
  match vs, hl with
  | [u, v, w], _ => exact ⟨u, v, w, rfl, q⟩
/-- names, from the left -/
def gNs (is : List Nat) : TGs := fun vs σ H Q => vs.length = is.length ∧ Q (setV σ is vs) H
end
end G
/-! G15: more built-ins. -/
namespace G
open PySem PySem.Spec PyProof.Rows L2
section
variable {X : Cx} {S : Sg} {Γ : List Kd} {K : Frag} {ct : Ct} {pos : Pos}
/-! ### list(range(..)) -/
instance (a b : Int) : Decidable (RgOk a b) := by unfold RgOk; exact inferInstance
def dLr : D → Option D
  | .int n => if RgOk 0 n then some (.lst (rngD 0 n)) else none
  | _ => none
/-! ### divmod -/
instance (i j : Int) : Decidable (CDiv i j) := by unfold CDiv; exact inferInstance
def dDm : List D → Option D
  | [.int i, .int j] => if CDiv i j then some (.tup [.int (i / j), .int (i % j)]) else none
  | _ => none
theorem b_divmod : Bi X K ct (.builtin "divmod") dDm := ⟨_, call_divmod, by
  intro F H ds d vs Q hs r e q
  unfold dDm at e
  split at e
  · replace r := rvl_two r
    obtain ⟨v, w, rfl, r, r'⟩ := r
    rw [rv_int] at r r'
    split at e
    · rename_i hc
      cases e
      exact ⟨_, _, by rw [r, r'], hc, fun l hl => q _ _ _ (.new (o := .tup [.int _, .int _]) hl) (rp_tup.mpr ⟨l, _, rfl, SqP.tup upd_same rfl, RpL.two (rp_int.mpr rfl) (rp_int.mpr rfl)⟩)⟩
    · cases e
  · cases e⟩
/-! ### str(n) -/
def dStr : List D → Option D
  | [.int i] => if i.natAbs.log2 < 1920 then some (.str (toString i)) else none
  | _ => none
theorem b_str : Bi X K ct (.type "str") dStr := ⟨_, call_str_int, by
  intro F H ds d vs Q hs r e q
  unfold dStr at e
  split at e
  · replace r := rvl_one r
    obtain ⟨v, rfl, r⟩ := r
    rw [rv_int] at r
    split at e
    · rename_i hc
      cases e
      exact ⟨_, by rw [r], hc, q _ _ _ .same (rp_str.mpr rfl)⟩
    · cases e
  · cases e⟩
/-! ### f-strings -/
def dFm : D → Option D
  | .str y => if y.length ≤ sizeLine then some (.str y) else none
  | .int i => if i.natAbs.log2 < 1920 then some (.str (toString i)) else none
  | _ => none
theorem e_fm {e : Expr} {m : M D} (h : EvE X S Γ e m) : EvE X S Γ (.FormattedValue e (-1) none pos) (m1 dFm m) := pe_imp (pe_fmt h) fun σ H Q q => by
  refine (Tr.bind (R1 := rD S) rD_late q).mono fun v H1 ⟨d, F1, r, q⟩ => ?_
  obtain ⟨z, e1, hs, k⟩ := q.opt0
  cases d <;> simp only [dFm] at e1 <;> try (cases e1; done)
  · split at e1
    · rename_i hz
      cases e1
      exact .inr ⟨_, rp_int.mp r, hz, k _ (rp_str.mpr rfl)⟩
    · cases e1
  · split at e1
    · rename_i hz
      cases e1
      exact .inl ⟨_, rp_str.mp r, hz, k _ (rp_str.mpr rfl)⟩
    · cases e1
/-- the parts, one behind the other -/
def mJs : List (M D) → Str → M Str
  | [], acc => M.ret acc
  | m :: ms, acc => m.bind fun d => match d with
    | .str y => if (acc ++ y).length ≤ sizeLine then mJs ms (acc ++ y) else M.opt none
    | _ => M.opt none
def mJn (ms : List (M D)) : M D := (mJs ms Str.empty).bind fun y => M.ret (.str y)
inductive EvJ (X : Cx) (S : Sg) (Γ : List Kd) : List Expr → List (M D) → Prop where
  | nil : EvJ X S Γ [] []
  | cons {e : Expr} {m : M D} {es : List Expr} {ms : List (M D)} (h : EvE X S Γ e m) (r : EvJ X S Γ es ms) : EvJ X S Γ (e :: es) (m :: ms)
theorem EvJ.pj {es : List Expr} {ms : List (M D)} (h : EvJ X S Γ es ms) : PJ X es (ms.map fun m => Tr S Γ (rD S) m) := by
  induction h with
  | nil => exact .nil
  | cons h _ ih => exact .cons h ih
theorem tr_js : ∀ {ms : List (M D)} {acc : Str} {F : Hp} {σ : L2.St} {H : Hp} {Q : VK}, TrF S Γ (rD S) ((mJs ms acc).bind fun y => M.ret (D.str y)) F σ H Q → tJs (ms.map fun m => Tr S Γ (rD S) m) acc σ H fun out H1 => Q (.str out) H1
  | [], acc, F, σ, H, Q, h => h.ret0 (rp_str.mpr rfl)
  | m :: ms, acc, F, σ, H, Q, h => by
    have h' : TrF S Γ (rD S) (m.bind fun d => (match d with
      | .str y => if (acc ++ y).length ≤ sizeLine then mJs ms (acc ++ y) else M.opt none
      | _ => M.opt none).bind fun (y : Str) => M.ret (D.str y)) F σ H Q := by
      obtain ⟨ρ, rs, h⟩ := h
      refine ⟨ρ, rs, ?_⟩
      have e : ((mJs (m :: ms) acc).bind fun y => M.ret (D.str y)) ρ = (m.bind fun d => (match d with
        | .str y => if (acc ++ y).length ≤ sizeLine then mJs ms (acc ++ y) else M.opt none
        | _ => M.opt none).bind fun (y : Str) => M.ret (D.str y)) ρ := by
        simp only [mJs, M.bind]
        cases m ρ <;> rfl
      rw [← e]
      exact h
    refine ⟨F, (TrF.bind (R1 := rD S) rD_late h').mono fun v H1 ⟨d, F1, r, x1, q⟩ => ?_⟩
    cases d with
    | str y =>
      by_cases hz : (acc ++ y).length ≤ sizeLine
      · simp only [if_pos hz] at q
        exact ⟨y, rp_str.mp r, hz, tr_js q⟩
      · simp only [if_neg hz] at q
        exact (TrF.nope q).elim
    | _ => exact (TrF.nope q).elim
theorem e_js {v1 v2 : Expr} {rest : List Expr} {ms : List (M D)} (h : EvJ X S Γ (v1 :: v2 :: rest) ms) : EvE X S Γ (.JoinedStr (v1 :: v2 :: rest) pos) (mJn ms) := pe_imp (pe_joined h.pj) fun σ H Q ⟨F, q⟩ => tr_js q
/-! ### sep.join(..) -/
def dJo : D → D → Option D
  | .str a, .lst xs => (dStrs xs).bind fun ys => if (ys.map (·.length)).sum + ys.length * a.length ≤ 16777216 then some (.str (Txt.join a ys)) else none
  | .str a, .tup xs => (dStrs xs).bind fun ys => if (ys.map (·.length)).sum + ys.length * a.length ≤ 16777216 then some (.str (Txt.join a ys)) else none
  | _, _ => none
def mJo (a b : M D) : M D := a.bind fun x => match x with
  | .str _ => b.bind fun y => M.opt (dJo x y)
  | _ => M.opt none
theorem e_join {o e : Expr} {mo m : M D} {apos : Pos} (ho : EvE X S Γ o mo) (he : EvR X S Γ e m) (hK : S.C.K = X.K) (hs : starEach [e] X.env = [(false, eval e X.env)] := by rfl) (hbase : attributeBase o "join" X.env (eval o X.env) = eval o X.env := by rfl) (hline : (apos.endLine == pos.line) = true := by rfl) :
    EvE X S Γ (.Call (.Attribute o "join" apos) [e] [] pos) (mJo mo m) := pe_imp (pe_join ho he hs hbase hline) fun σ H Q q => by
  refine (Tr.bind (R1 := rD S) rD_late q).mono fun v H1 ⟨d, F1, r, q⟩ => ?_
  cases d with
  | str a =>
    refine ⟨⟨a, rp_str.mp r⟩, F1, (TrF.bind (R1 := rR S) rD_late q).mono fun w H2 ⟨d2, F2, r2, x2, q⟩ => ?_⟩
    obtain ⟨z, e1, hs, k⟩ := q.opt0
    cases d2 <;> simp only [dJo] at e1 <;> try (cases e1; done)
    · obtain ⟨ys, e2, e3⟩ := Option.bind_eq_some_iff.mp e1
      split at e3
      · rename_i hz
        cases e3
        obtain ⟨b, vs, rfl, h1, h2⟩ := rv_tup.mp r2
        rw [dStrs_eq e2] at h2
        rw [rpl_strs_inv h2] at h1
        exact ⟨a, b, ys, rp_str.mp r, rfl, .inr (by rw [← hK]; exact same_t hs h1), hz, k _ (rp_str.mpr rfl)⟩
      · cases e3
    · obtain ⟨ys, e2, e3⟩ := Option.bind_eq_some_iff.mp e1
      split at e3
      · rename_i hz
        cases e3
        obtain ⟨b, vs, rfl, h1, h2⟩ := rv_lst.mp r2
        rw [dStrs_eq e2] at h2
        rw [rpl_strs_inv h2] at h1
        exact ⟨a, b, ys, rp_str.mp r, rfl, .inl (SqL.of h1), hz, k _ (rp_str.mpr rfl)⟩
      · cases e3
  | _ => exact q.nope.elim
end
/-! ### isinstance -/
inductive Tk where
  | int | bool | str | tuple | list | dict
  deriving DecidableEq
def Tk.s : Tk → String
  | .int => "int" | .bool => "bool" | .str => "str" | .tuple => "tuple" | .list => "list" | .dict => "dict"
def tyD : D → Option String
  | .non => some "NoneType" | .bl _ => some "bool" | .int _ => some "int" | .str _ => some "str" | .tup _ => some "tuple" | .lst _ => some "list" | .scr _ => some "list" | .dct _ _ => some "dict" | .obj _ _ => none | .exc _ _ => none | .dti _ _ => none
def isTk (T : Tk) : D → Option Bool
  | .non => some false
  | .bl _ => some (match T with | .int => true | .bool => true | _ => false)
  | .int _ => some (match T with | .int => true | _ => false)
  | .str _ => some (match T with | .str => true | _ => false)
  | .tup _ => some (match T with | .tuple => true | _ => false)
  | .lst _ => some (match T with | .list => true | _ => false)
  | .scr _ => some (match T with | .list => true | _ => false)
  | .dct _ _ => some (match T with | .dict => true | _ => false)
  | .obj _ _ => none
  | .exc _ _ => none
  | .dti _ _ => none
theorem isTk_kit {T : Tk} {d : D} {b : Bool} (e : isTk T d = some b) : ∃ t, tyD d = some t ∧ kitB t T.s = some b := by
  cases d <;> simp only [isTk] at e <;> (try (cases e; done)) <;> cases e <;> refine ⟨_, rfl, ?_⟩ <;> cases T <;> decide +kernel
section
variable {X : Cx} {S : Sg} {Γ : List Kd} {K : Frag} {ct : Ct} {pos : Pos}
theorem tyx_of {F H : Hp} {d : D} {v : V} {t : String} (hs : Same F H) (r : Rv K ct F H d v) (e : tyD d = some t) : TyX K H v (.type t) := by
  cases d <;> simp only [tyD] at e <;> try (cases e; done)
  · cases e; rw [rv_non] at r; subst r; exact .base .non
  · cases e; rw [rv_bl] at r; subst r; exact .base (.bl _)
  · cases e; rw [rv_int] at r; subst r; exact .base (.int _)
  · cases e; rw [rv_str] at r; subst r; exact .base (.str _)
  · cases e; rw [rv_tup] at r
    obtain ⟨a, vs, rfl, h1, _⟩ := r
    rcases same_t hs h1 with (h | ⟨o, h⟩) | ⟨o, its, n, hk, hc, _⟩
    · exact .base (.tup h)
    · exact .fTuple h
    · exact .kTuple hk hc
  · cases e; rw [rv_lst] at r
    obtain ⟨a, vs, rfl, h1, _⟩ := r
    exact .base (.lst h1)
  · cases e; rw [rv_scr] at r
    obtain ⟨a, rfl, h1⟩ := r
    rcases same_l hs h1 with (h | ⟨o, h⟩) | ⟨o, its, n, hk, hc, _⟩
    · exact .base (.lst h)
    · exact .base (.frz h)
    · exact .kList hk hc
  · cases e; rw [rv_dct] at r
    obtain ⟨a, o, rfl, h1, h2⟩ := r
    generalize hd : D.dct _ _ = dd at h2
    cases h2 with
    | lst _ => cases hd
    | dK _ _ => exact .base (.dK h1)
    | dT _ _ => exact .base (.dT h1)
    | dL _ _ => exact .fDict h1
    | ins _ _ => cases hd
    | dti _ _ => cases hd
theorem pe_tyn {x : Str} {n : String} {p : Pos} (hm : X.mg x = none) (hv : bootBuiltins x = some (.type n)) (hg : Gl X x) (hn : x ≠ "__name__") (hdb : (x == ("__debug__" : Str)) = false) : PE X (.Name x p) (tC (.ty n)) := ⟨fun pins s σ H Q I q => ld_blt I hg hm hv ⟨.ty n, H, I, rfl, q⟩ hn hdb⟩
theorem pe_cln {x : Str} {C : Addr} {p : Pos} (hm : X.mg x = some (.ref C)) (hg : Gl X x) (hdb : (x == ("__debug__" : Str)) = false) : PE X (.Name x p) (tC (.ref C)) := ⟨fun pins s σ H Q I q => ld_glob I hg hm ⟨.ref C, H, I, rfl, q⟩ hdb⟩
def dIs (T : Tk) (d : D) : Option D := (isTk T d).map .bl
theorem e_is {e : Expr} {m : M D} {x : Str} {T : Tk} {p p2 : Pos} (h : EvR X S Γ e m) (hK : S.C.K = X.K) (hm : X.mg "isinstance" = none) (hmx : X.mg x = none) (hv : bootBuiltins x = some (.type T.s) := by decide +kernel) (hvi : bootBuiltins "isinstance" = some (.builtin "isinstance") := by decide +kernel) (hgi : Gl X "isinstance" := by rfl) (hg : Gl X x := by rfl) (hn : x ≠ "__name__" := by decide) (hdb : (x == ("__debug__" : Str)) = false := by decide)
    (hs : starEach [e, .Name x p2] X.env = (false, eval e X.env) :: starEach [.Name x p2] X.env := by rfl) (hs2 : starEach [.Name x p2] X.env = (false, eval (.Name x p2) X.env) :: starEach [] X.env := by rfl) (hpl : (backTo pos (starEach [.Name x p2] X.env)).any (·.1) = false := by rfl) :
    EvE X S Γ (.Call (.Name "isinstance" p) [e, .Name x p2] [] pos) (m1 (dIs T) m) := pe_imp (pe_callB call_isi hgi hm hvi (pa_cons h (pa_cons (pe_tyn hmx hv hg hn hdb) pa_nil hs2) hs) (by decide) (by decide) hs hpl) fun σ H Q q => by
  refine (Tr.bind (R1 := rR S) rD_late q).mono fun v H1 ⟨d, F1, r, q⟩ => ?_
  obtain ⟨z, e1, hs, k⟩ := q.opt0
  obtain ⟨b, e2, rfl⟩ := Option.map_eq_some_iff.mp e1
  obtain ⟨t, e3, e4⟩ := isTk_kit e2
  exact ⟨v, .ty T.s, .type t, .type T.s, b, rfl, .ty _, by rw [← hK]; exact tyx_of hs r e3, kit_ty e4, k _ (rp_bl.mpr rfl)⟩
/-- what is known of an own class for isinstance -/
structure ClsF (K : Frag) (C : Addr) : Prop where
  cl : Cls K C
  ha : PySem.W.findIn K (.ref C) "__class__" = some (some (.builtin "object.__class__"))
  hn : PySem.W.specialIn K (.builtin "object.__class__") "__get__" = some (some (.builtin "getset_descriptor.__get__"))
  htk : PySem.W.takesIn K (.builtin "object.__class__") = some true
  hm : PySem.W.mroIn K C (.type "object") = some true
/-- no built-in value is of the class at C -/
def NotB (K : Frag) (C : Addr) : Prop := ∀ t ∈ ["NoneType", "bool", "int", "str", "tuple", "list", "dict"], PySem.W.kitOne K (.type t) (.ref C) = some false
theorem tyD_mem {d : D} {t : String} (e : tyD d = some t) : t ∈ ["NoneType", "bool", "int", "str", "tuple", "list", "dict"] := by
  cases d <;> simp only [tyD] at e <;> (try (cases e; done)) <;> cases e <;> decide
def dIo (c : Nat) (d : D) : Option D := match d with
  | .obj c' _ => if c' = c then some (.bl true) else none
  | .exc _ _ => none
  | .dti _ _ => none
  | _ => some (.bl false)
theorem e_io {e : Expr} {m : M D} {x : Str} {c : Nat} {p p2 : Pos} (h : EvR X S Γ e m) (hK : S.C.K = X.K) (cf : ClsF X.K (S.C.ct c).1) (nb : NotB X.K (S.C.ct c).1) (hm : X.mg "isinstance" = none) (hmx : X.mg x = some (.ref (S.C.ct c).1)) (hvi : bootBuiltins "isinstance" = some (.builtin "isinstance") := by decide +kernel) (hgi : Gl X "isinstance" := by rfl) (hg : Gl X x := by rfl) (hdb : (x == ("__debug__" : Str)) = false := by decide)
    (hs : starEach [e, .Name x p2] X.env = (false, eval e X.env) :: starEach [.Name x p2] X.env := by rfl) (hs2 : starEach [.Name x p2] X.env = (false, eval (.Name x p2) X.env) :: starEach [] X.env := by rfl) (hpl : (backTo pos (starEach [.Name x p2] X.env)).any (·.1) = false := by rfl) :
    EvE X S Γ (.Call (.Name "isinstance" p) [e, .Name x p2] [] pos) (m1 (dIo c) m) := pe_imp (pe_callB call_isi hgi hm hvi (pa_cons h (pa_cons (pe_cln hmx hg hdb) pa_nil hs2) hs) (by decide) (by decide) hs hpl) fun σ H Q q => by
  refine (Tr.bind (R1 := rR S) rD_late q).mono fun v H1 ⟨d, F1, r, q⟩ => ?_
  obtain ⟨z, e1, hs, k⟩ := q.opt0
  have r : Rv S.C.K S.C.ct F1 H1 d v := r
  by_cases ho : ∃ c' fs, d = .obj c' fs
  · obtain ⟨c', fs, rfl⟩ := ho
    simp only [dIo] at e1
    split at e1
    · rename_i ec
      subst ec
      cases e1
      obtain ⟨a, o, rfl, h1, h2⟩ := rv_obj.mp r
      generalize hd : D.obj c' fs = dd at h2
      cases h2 with
      | lst _ => cases hd
      | dK _ _ => cases hd
      | dT _ _ => cases hd
      | dti _ _ => cases hd
      | dL _ _ => cases hd
      | ins _ _ =>
        cases hd
        exact ⟨_, _, _, _, true, rfl, .own _, .base (.ins h1 cf.cl cf.ha cf.hn cf.htk cf.hm), by unfold PySem.W.kitOne; simp, k _ (rp_bl.mpr rfl)⟩
    · cases e1
  · obtain ⟨t, et⟩ : ∃ t, tyD d = some t := by cases d <;> first | exact ⟨_, rfl⟩ | exact absurd ⟨_, _, rfl⟩ ho | (simp only [dIo] at e1; cases e1; done)
    have ez : z = .bl false := by
      cases d <;> simp only [dIo] at e1 <;> first | (cases e1; done) | (cases e1; rfl) | exact absurd ⟨_, _, rfl⟩ ho
    subst ez
    exact ⟨v, _, .type t, _, false, rfl, .own _, by rw [← hK]; exact tyx_of hs r et, nb t (tyD_mem et), k _ (rp_bl.mpr rfl)⟩
/-! ### attributes -/
def dAt (i : Nat) (c : Nat) : D → Option D
  | .obj c' fs => if c' = c then fs[i]? else none
  | _ => none
theorem zip_lookup {ns : List Str} {vs : List V} {i : Nat} {f : Str} {v : V} (hn : ns[i]? = some f) (nd : ns.Nodup) (hv : vs[i]? = some v) : (ns.zip vs).lookup f = some v := by
  induction ns generalizing vs i with
  | nil => simp at hn
  | cons n ns ih =>
    cases vs with
    | nil => simp at hv
    | cons w vs =>
      cases i with
      | zero => simp at hn hv; subst hn hv; simp [List.zip, List.lookup_cons]
      | succ i =>
        have nd' := List.nodup_cons.mp nd
        have ne : f ≠ n := fun z => nd'.1 (by rw [← z]; exact List.mem_of_getElem? (by simpa using hn))
        simp only [List.zip_cons_cons, List.lookup_cons]
        rw [beq_eq_false_iff_ne.mpr ne]
        exact ih (by simpa using hn) nd'.2 (by simpa using hv)
theorem e_at {e : Expr} {m : M D} {f : Str} {i c : Nat} (h : EvR X S Γ e m) (hK : S.C.K = X.K) (cl : Cls X.K (S.C.ct c).1) (na : NoAttr X.K (S.C.ct c).1 f) (hi : (S.C.ct c).2[i]? = some f) (nd : (S.C.ct c).2.Nodup) (hb : attributeBase e f X.env (eval e X.env) = eval e X.env := by rfl) :
    EvE X S Γ (.Attribute e f pos) (m1 (dAt i c) m) := pe_imp (pe_fld h hb) fun σ H Q q => by
  refine (Tr.bind (R1 := rR S) rD_late q).mono fun v H1 ⟨d, F1, r, q⟩ => ?_
  obtain ⟨z, e1, hs, k⟩ := q.opt0
  cases d <;> simp only [dAt] at e1 <;> try (cases e1; done)
  split at e1
  · rename_i c' fs ec
    subst ec
    obtain ⟨a, o, rfl, h1, h2⟩ := rv_obj.mp r
    generalize hd : D.obj c' fs = dd at h2
    cases h2 with
    | lst _ => cases hd
    | dK _ _ => cases hd
    | dT _ _ => cases hd
    | dti _ _ => cases hd
    | dL _ _ => cases hd
    | ins q1 q2 =>
      cases hd
      obtain ⟨u, z1, z2⟩ := q1.get e1
      exact ⟨a, _, _, _, u, rfl, h1, cl, na, zip_lookup hi nd z1, k _ z2⟩
  · cases e1
end
end G
/-! G16: sorted, repr. -/
namespace G
open PySem PySem.Spec PyProof.Rows L2
section
variable {X : Cx} {S : Sg} {Γ : List Kd} {K : Frag} {ct : Ct} {pos : Pos}
/-! ### sorted -/
def tup1 : PyData → Bool
  | .tuple (_ :: _) => true
  | _ => false
def notNT : PyData → Bool
  | .none => false
  | .tuple _ => false
  | _ => true
def sortOk (ps : List PyData) : Bool := (ps.all fun p => ps.all fun q => PySem.W.alike p q) && (ps.all tup1 || ps.all notNT) && ps.all (fun p => decide (p.depth ≤ 60))
def srtD (xs : List D) (ps : List PyData) : List D := ((xs.zip ps).mergeSort (PySem.W.dataLe false Prod.snd)).map Prod.fst
def rSrt (K : Frag) (ct : Ct) : List V → Hp → VK → Prop := fun vs H Q => ∃ (F : Hp) (a : Addr) (xs : List D) (ps : List PyData) (ws : List V), vs = [.ref a] ∧ Same F H ∧ (SqL K H a ws ∨ SqT K H a ws) ∧ RpL K ct F xs ws ∧ toPyL xs = some ps ∧ sortOk ps = true ∧
  ∀ p outV, H p = none → RpL K ct F (srtD xs ps) outV → Q (.ref p) (upd H p (.lst outV))
/-! sorted(a tuple) -/
section
open PySem.W
variable {prog : Program} {w : World} {A : Around} {E : Value → Shared → Prop} {s : Shared}
end
def dSorted : List D → Option D
  | [.lst xs] => (toPyL xs).bind fun ps => if sortOk ps = true then some (.lst (srtD xs ps)) else none
  | [.tup xs] => (toPyL xs).bind fun ps => if sortOk ps = true then some (.lst (srtD xs ps)) else none
  | _ => none
/-! ### repr -/
mutual
def toPyR : D → Option PyData
  | .non => some .none
  | .bl b => some (.bool b)
  | .int i => some (.int i)
  | .str x => some (.str x)
  | .tup xs => (toPyRL xs).map .tuple
  | .lst xs => (toPyRL xs).map .list
  | .scr ns => some (.list (ns.map .int))
  | .dct [] [] => some (.dict [])
  | .dct _ _ => none
  | .obj _ _ => none
  | .exc _ _ => none
  | .dti _ _ => none
def toPyRL : List D → Option (List PyData)
  | [] => some []
  | d :: ds => match toPyR d, toPyRL ds with
    | some p, some ps => some (p :: ps)
    | _, _ => none
end
mutual
/-- no list within -/
def noL : D → Bool
  | .lst _ => false
  | .scr _ => false
  | .tup xs => noLL xs
  | _ => true
def noLL : List D → Bool
  | [] => true
  | d :: ds => noL d && noLL ds
end
theorem paired_nil {α β : Type} {R : α → β → Prop} {l : List β} (h : Paired R [] l) : l = [] := by cases h; rfl
theorem readsAll_ints {h : Heap} : ∀ {ns : List Int} {us : List Value}, Vals (ns.map V.int) us → ReadsAll h us (ns.map .int) []
  | [], _, .nil => .nil
  | n :: ns, _, .cons r t => by
    obtain ⟨k, rfl⟩ := r
    exact ReadsAll.cons (as := []) (bs := []) (Reads.int n k) (readsAll_ints t)
variable {pins : List (Addr × Obj)} {σ : L2.St} {H F : Hp} {s : Shared}
theorem dct_reads (I : Inv X pins σ H s) {a : Addr} (h : H a = some (.dK []) ∨ H a = some (.dT [])) : Reads s.heap (.ref a) (.dict []) [a] ∧ a ≠ sysModules := by
  rcases h with h | h
  · obtain ⟨_, hne, vs, kv, hd⟩ := I.hok a _ h
    have : vs = [] := paired_nil kv
    subst this
    obtain ⟨o, es, ep, h1, h2, h3, h4, h5, _⟩ := id hd
    have hes : es.toList = [] := by
      cases e : es.toList with
      | nil => rfl
      | cons x r => rw [e] at h5; cases h5
    exact ⟨Reads.dict (as := []) (bs := []) h1 h2.1 h3 (by rw [hes]; exact ReadsAll.nil) (by rw [hes]; exact ReadsAll.nil), fun z => by subst z; simp at hne⟩
  · obtain ⟨_, hne, xs, px, o, es, ep, h1, h2, h3, h4, _⟩ := I.hok a _ h
    have : xs = [] := paired_nil px
    subst this
    have hes : es.toList = [] := by simpa using h4
    exact ⟨Reads.dict (as := []) (bs := []) h1 h2.1 h3 (by rw [hes]; exact ReadsAll.nil) (by rw [hes]; exact ReadsAll.nil), fun z => by subst z; simp at hne⟩
mutual
theorem rp_reads (I : Inv X pins σ H s) (hs : Same F H) : ∀ {d : D} {v : V} {u : Value} {p : PyData}, Rp X.K ct F d v → toPyR d = some p → RelV v u → ∃ as, Reads s.heap u p as ∧ (noL d = true → sysModules ∉ as)
  | .non, v, u, p, h, e, r => by simp only [toPyR] at e; cases e; rw [rp_non] at h; subst h; cases r; exact ⟨_, Reads.none, fun _ => by simp⟩
  | .bl b, v, u, p, h, e, r => by simp only [toPyR] at e; cases e; rw [rp_bl] at h; subst h; cases r; exact ⟨_, Reads.bool b, fun _ => by simp⟩
  | .int i, v, u, p, h, e, r => by simp only [toPyR] at e; cases e; rw [rp_int] at h; subst h; obtain ⟨t, rfl⟩ := r; exact ⟨_, Reads.int i t, fun _ => by simp⟩
  | .str x, v, u, p, h, e, r => by simp only [toPyR] at e; cases e; rw [rp_str] at h; subst h; obtain ⟨t, rfl⟩ := r; exact ⟨_, Reads.str x t, fun _ => by simp⟩
  | .tup xs, v, u, p, h, e, r => by
    simp only [toPyR] at e
    obtain ⟨ps, e1, rfl⟩ := Option.map_eq_some_iff.mp e
    obtain ⟨a, vs, rfl, h1, h2⟩ := rp_tup.mp h
    cases r
    obtain ⟨its, rv, ⟨o, ho, hc, n, hd⟩, _⟩ := I.tuple (same_t hs h1)
    obtain ⟨as, hr, hn⟩ := rpl_reads I hs h2 e1 rv
    exact ⟨_, Reads.tuple ho hc hd hr, fun z => hn (by simpa only [noL] using z)⟩
  | .lst xs, v, u, p, h, e, r => by
    simp only [toPyR] at e
    obtain ⟨ps, e1, rfl⟩ := Option.map_eq_some_iff.mp e
    obtain ⟨a, vs, rfl, h1, h2⟩ := rp_lst.mp h
    cases r
    obtain ⟨its, rv, ⟨o, n, ho, hc, _, hd⟩, _⟩ := I.list (SqL.of (hs _ _ h1))
    obtain ⟨as, hr, _⟩ := rpl_reads I hs h2 e1 rv
    exact ⟨_, Reads.list ho hc hd hr, fun z => by simp only [noL] at z; cases z⟩
  | .scr ns, v, u, p, h, e, r => by
    simp only [toPyR] at e
    cases e
    obtain ⟨a, rfl, h1⟩ := rp_scr.mp h
    cases r
    obtain ⟨its, rv, ⟨o, n, ho, hc, _, hd⟩, _⟩ := I.list (same_l hs h1)
    exact ⟨_, Reads.list ho hc hd (readsAll_ints rv), fun z => by simp only [noL] at z; cases z⟩
  | .dct [] [], v, u, p, h, e, r => by
    simp only [toPyR] at e
    cases e
    simp only [Rp] at h
    obtain ⟨a, vs, rfl, h1, h3⟩ := h
    cases r
    have hh : H a = some (.dK []) ∨ H a = some (.dT []) := by
      rcases h3 with ⟨kk, e1, e0, e2⟩ | ⟨kk, e1, e0, e2⟩ | ⟨kk, o, e1, e0, e2⟩
      · have : kk = [] := by simpa using e1.symm
        subst this
        exact .inl (hs _ _ e2)
      · cases e1
      · cases e1
    obtain ⟨q1, q2⟩ := dct_reads I hh
    exact ⟨_, q1, fun _ => by simpa using fun z => q2 z.symm⟩
  | .dct (_ :: _) _, _, _, _, _, e, _ => by simp only [toPyR] at e; cases e
  | .dct [] (_ :: _), _, _, _, _, e, _ => by simp only [toPyR] at e; cases e
  | .obj _ _, _, _, _, _, e, _ => by simp only [toPyR] at e; cases e
  | .exc _ _, _, _, _, _, e, _ => by simp only [toPyR] at e; cases e
  | .dti _ _, _, _, _, _, e, _ => by simp only [toPyR] at e; cases e
theorem rpl_reads (I : Inv X pins σ H s) (hs : Same F H) : ∀ {ds : List D} {vs : List V} {us : List Value} {ps : List PyData}, RpL X.K ct F ds vs → toPyRL ds = some ps → Vals vs us → ∃ as, ReadsAll s.heap us ps as ∧ (noLL ds = true → sysModules ∉ as)
  | [], vs, us, ps, h, e, r => by simp only [toPyRL] at e; cases e; rw [rpl_nil] at h; subst h; cases r; exact ⟨_, ReadsAll.nil, fun _ => by simp⟩
  | d :: ds, vs, us, ps, h, e, r => by
    obtain ⟨v, w, rfl, h1, h2⟩ := rpl_cons.mp h
    simp only [toPyRL] at e
    split at e
    · rename_i p ps' e1 e2
      cases e
      cases r with
      | cons q1 q2 =>
        obtain ⟨as, z1, z2⟩ := rp_reads I hs h1 e1 q1
        obtain ⟨bs, y1, y2⟩ := rpl_reads I hs h2 e2 q2
        refine ⟨_, ReadsAll.cons z1 y1, fun hn => ?_⟩
        simp only [noLL, Bool.and_eq_true] at hn
        rw [List.mem_append, not_or]
        exact ⟨z2 hn.1, y2 hn.2⟩
    · cases e
end
def reprOk (d : D) (p : PyData) : Bool := p.showable && decide (p.shown.length ≤ sizeLine) && decide (p.depth ≤ 60) && (!p.hasDict || noL d)
def rRepr (K : Frag) (ct : Ct) : List V → Hp → VK → Prop := fun vs H Q => ∃ (F : Hp) (v : V) (d : D) (p : PyData), vs = [v] ∧ Same F H ∧ Rp K ct F d v ∧ toPyR d = some p ∧ reprOk d p = true ∧ Q (.str p.shown) H
theorem cr_repr (hgd : X.A.guards = some []) (hu : X.A.units + 64 < cLine) : CallR X (.builtin "repr") (rRepr X.K ct) := by
  intro pins s σ H vs us Q I r h
  obtain ⟨F, v, d, p, rfl, hs, hd, e, ok, q⟩ := h
  unfold reprOk at ok
  simp only [Bool.and_eq_true, decide_eq_true_eq, Bool.or_eq_true, Bool.not_eq_true'] at ok
  obtain ⟨⟨⟨k1, k2⟩, k3⟩, k4⟩ := ok
  obtain ⟨u, rfl, ru⟩ := vals1 r
  obtain ⟨as, hr, hn⟩ := rp_reads I hs hd e ru
  have hsm : p.hasDict = true → sysModules ∉ as := fun z => by
    rcases k4 with k4 | k4
    · rw [k4] at z; cases z
    · exact hn k4
  have fin : ∀ h' k tk, (∀ b o, s.heap.get? b = some o → h'.get? b = some o) → EP X pins σ Q (.str p.shown k) { s with heap := h', toks := tk } := fun h' k tk hk => ⟨.str p.shown, H, I.kept hk, ⟨k, rfl⟩, q⟩
  cases hr with
  | none => exact PySem.P.repr_of_none (fin s.heap _ _ fun _ _ z => z)
  | bool b => cases b <;> exact PySem.P.repr_of_bool (fin s.heap _ _ fun _ _ z => z)
  | int i t => exact PySem.P.repr_of_int (by simpa [PyData.showable] using k1) (fin s.heap _ _ fun _ _ z => z)
  | str x t => exact PySem.P.repr_of_str (fin s.heap _ _ fun _ _ z => z) k2
  | list a1 a2 a3 a4 => exact repr_of_reads' (Reads.list a1 a2 a3 a4) k1 hsm hgd (by omega) (fun _ _ z => z) (fun h' u tk hk => fin h' u tk hk) k2
  | tuple a1 a2 a3 a4 => exact repr_of_reads' (Reads.tuple a1 a2 a3 a4) k1 hsm hgd (by omega) (fun _ _ z => z) (fun h' u tk hk => fin h' u tk hk) k2
  | dict a1 a2 a3 a4 a5 => exact repr_of_reads' (Reads.dict a1 a2 a3 a4 a5) k1 hsm hgd (by omega) (fun _ _ z => z) (fun h' u tk hk => fin h' u tk hk) k2
def dRepr : List D → Option D
  | [d] => (toPyR d).bind fun p => if reprOk d p = true then some (.str p.shown) else none
  | _ => none
/-- repr of frozen data -/
theorem e_repr {e : Expr} {es : List Expr} {p : Pos} {ms : M (List D)} (hgd : X.A.guards = some []) (hu : X.A.units + 64 < cLine) (hK : S.C.K = X.K) (ha : EvA X S Γ (e :: es) ms) (hm : X.mg "repr" = none) (hv : bootBuiltins "repr" = some (.builtin "repr") := by decide +kernel) (hg : Gl X "repr" := by rfl)
    (he : starEach (e :: es) X.env = (false, eval e X.env) :: starEach es X.env := by rfl) (hpl : (backTo pos (starEach es X.env)).any (·.1) = false := by rfl) : EvE X S Γ (.Call (.Name "repr" p) (e :: es) [] pos) (mA dRepr ms) :=
  pe_imp (pe_callB (cr_repr (ct := S.C.ct) hgd hu) hg hm hv ha (by decide) (by decide) he hpl) fun σ H Q q => by
    refine (Tr.bind (R1 := rL S) rD_late q).mono fun vs H1 ⟨ds, F1, r, q⟩ => ?_
    obtain ⟨z, e1, hs, k⟩ := q.opt0
    unfold dRepr at e1
    split at e1
    · obtain ⟨p, e2, e3⟩ := Option.bind_eq_some_iff.mp e1
      split at e3
      · rename_i ok
        cases e3
        obtain ⟨v, w, rfl, r1, r2⟩ := rpl_cons.mp r
        rw [rpl_nil.mp r2]
        rw [hK] at r1
        exact ⟨F1, v, _, p, rfl, hs, r1, e2, ok, k _ (rp_str.mpr rfl)⟩
      · cases e3
    · cases e1
end
end G
/-! G17: instances: made, their attributes stored, their methods called. -/
namespace G
open PySem PySem.Spec PyProof.Rows L2
variable {cn : Bool}
section
variable {X : Cx} {W : WX} {k n : Nat} {f C : Addr} {fd : FuncData} {ps kn : List Str} {sp : Sp} {g : List Value → List Value → List Value} {gV : List V → List V → List V} {x m : Str} {p pos apos : Pos} {e o : Expr} {es : List Expr} {kws : List Keyword} {t tkw : TA} {ta : TE}
theorem run_mk {pins : List (Addr × Obj)} {σ : L2.St} {H : Hp} {s : Shared} {Q : VK} {us ws : List Value} {vs zs : List V} (M : Mk X.K C f) (F : FnG X.prog X.w X.K X.mg X.base (CXn cn X.prog X.w) k f fd ps sp) (hgd : X.A.guards = some []) (hr : Room (k + 1) X.A) (hb : KBn X.K fd ps (n + 1) kn g gV) (tk : Tkn cn X W)
    (I : Inv X pins σ H s) (r : Vals vs us) (rz : Vals zs ws) (l1 : vs.length = n) (l2 : zs.length = kn.length)
    (h : ∀ x dx, H x = none → H dx = none → dx ≠ x → sp (gV (.ref x :: vs) zs) (upd (upd H dx (.own x)) x (.ins C dx [])) (fun v H2 => v = .non ∧ Q (.ref x) H2) (WE W σ)) :
    wpAny (model X.prog X.w) X.A (call (.ref C) us (kn.zip ws)) (EP X pins σ Q) X.xe s := by
  have hq := h (s.heap.objs.size + 1) s.heap.objs.size (I.hok.fresh (Nat.le_succ _)) (I.hok.fresh (Nat.le_refl _)) (Nat.ne_of_lt (Nat.lt_succ_self _))
  have I2 := Inv.made (C := C) I
  have r1 : Vals (V.ref (s.heap.objs.size + 1) :: vs) (Value.ref (s.heap.objs.size + 1) :: us) := .cons rfl r
  have r2 := hb.rel r1 rz
  have n1 : (Value.ref (s.heap.objs.size + 1) :: us).length = n + 1 := by
    rw [List.length_cons, ← r.length, l1]
  refine wpAny_call (make_map (f := f) I.kIn M.makes M.init (beq_iff_eq.mp M.fn) (codeAny_mono (F.run _ X.stack _ _ ⟨Value.ref (s.heap.objs.size + 1) :: us, kn.zip ws⟩ (g (Value.ref (s.heap.objs.size + 1) :: us) ws) _ _ (WE W σ) (make_guards hgd C us (kn.zip ws)) (hr.make C us (kn.zip ws))
    (I2.env0.make C us (kn.zip ws)) (hb.to _ (Value.ref (s.heap.objs.size + 1) :: us) ws I2.kIn n1 (rz.length.symm.trans l2)) r2 hq) fun r s' hq' => ?_))
  cases r with
  | error e => exact passAtn tk σ pins _ _ e s' I2 hq'
  | ok fl =>
    cases fl with
    | ret u =>
      obtain ⟨v, H', I3, rv, ev, q3⟩ := I2.after hq'
      subst ev
      exact ⟨rv, ⟨V.ref (s.heap.objs.size + 1), H', I3, rfl, q3⟩⟩
    | next => exact False.elim hq'
    | brk => exact False.elim hq'
    | cont => exact False.elim hq'
def tMkG (C : Addr) (n m : Nat) (sp : Sp) (gV : List V → List V → List V) (W : WX) (t tk : TA) : TE := fun σ H Q => t σ H fun vs H1 => tk σ H1 fun zs H2 => vs.length = n ∧ zs.length = m ∧ ∀ x dx, H2 x = none → H2 dx = none → dx ≠ x →
  sp (gV (.ref x :: vs) zs) (upd (upd H2 dx (.own x)) x (.ins C dx [])) (fun v H3 => v = .non ∧ Q (.ref x) H3) (WE W σ)
/-- a class at hand -/
structure ClM (cn : Bool) (X : Cx) (k : Nat) (C f : Addr) (fd : FuncData) (ps : List Str) (sp : Sp) : Prop where
  mkr : Mk X.K C f
  fn : FnG X.prog X.w X.K X.mg X.base (CXn cn X.prog X.w) k f fd ps sp
  gd : X.A.guards = some []
  rm : Room (k + 1) X.A
theorem pe_mk0 (M : ClM cn X k C f fd ps sp) (hm : X.mg x = some (.ref C)) (hb : KBn X.K fd ps 1 [] g gV) (tk : Tkn cn X W) (hg : Gl X x := by rfl) (hdb : (x == ("__debug__" : Str)) = false := by decide) :
    PE X (.Call (.Name x p) [] [] pos) (tMkG C 0 0 sp gV W tNil tNil) := by
  refine ⟨fun pins s σ H Q I h => ?_⟩
  refine wpAny_Call_Name_kw (ld_glob I hg hm ?_ hdb)
  obtain ⟨l1, l2, q⟩ := h
  exact PySem.W.callWith_K0 I.kIn M.mkr.kp (run_mk (us := []) (vs := []) (ws := []) (zs := []) M.mkr M.fn M.gd M.rm hb tk I .nil .nil rfl rfl q)
theorem pe_mkk (M : ClM cn X k C f fd ps sp) (hm : X.mg x = some (.ref C)) (hb : KBn X.K fd ps (n + 1) kn g gV) (tk : Tkn cn X W) (ha : PA X (e :: es) t) (hkw : PK X kws tkw) (hg : Gl X x := by rfl)
    (hall : (backToKw pos (keywordEach kws X.env)).all (·.1.isSome) = true := by rfl) (hks : (backToKw pos (keywordEach kws X.env)).filterMap (·.1) = kn := by rfl) (hdb : (x == ("__debug__" : Str)) = false := by decide)
    (he : starEach (e :: es) X.env = (false, eval e X.env) :: starEach es X.env := by rfl) (hpl : ((backTo pos (starEach (e :: es) X.env)).any (·.1) || (backToKw pos (keywordEach kws X.env)).any (·.1.isNone)) = false := by rfl) :
    PE X (.Call (.Name x p) (e :: es) kws pos) (tMkG C n kn.length sp gV W t tkw) := by
  refine ⟨fun pins s σ H Q I h => ?_⟩
  refine wpAny_Call_Name_kw (ld_glob I hg hm ?_ hdb)
  refine PySem.W.callWith_KW (h₀ := X.base) I.ok.mod.kin M.mkr.kp hall (thn (ha.run pos pins s σ H _ I h) fun us s1 ⟨vs, H1, I1, r, q⟩ => ?_) hpl he
  refine thn (hkw.run pos pins s1 σ H1 _ I1 q) fun ws s2 ⟨zs, H2, I2, rz, l1, l2, q2⟩ => ⟨I2.kIn, ?_⟩
  rw [hks]
  exact run_mk M.mkr M.fn M.gd M.rm hb tk I2 r rz l1 l2 q2
end
/-- the state where others' objects change -/
theorem RS.others {C : Fx} {Γ : List Kd} {F F' H H' : Hp} {ρ : Env} {σ : L2.St} {P : Addr → Prop} (r : RS C Γ F ρ σ H) (x : Ext P F H F' H') (hs : Same F' H') (hP : ∀ a, P a → ¬ Own Γ σ a ∧ C.H0 a = none) : RS C Γ F' ρ σ H' where
  sub := hs
  ext := by
    have y1 : Ext (fun b => C.io b ∨ C.H0 b = none) C.F0 C.H0 F H := r.ext.sub fun b z => .inl (.inl z)
    have y2 : Ext (fun b => C.io b ∨ C.H0 b = none) F H F' H' := x.sub fun b z => .inl (.inr (hP b z).2)
    exact (y1.trans y2).sub fun b z => z
  ln := r.ln
  lg := r.lg
  no := r.no
  fz := fun i d h1 h2 => by
    obtain ⟨u, e1, e2⟩ := r.fz i d h1 h2
    exact ⟨u, e1, e2.mono x.f⟩
  ow := fun i d k h1 h2 h3 => by
    obtain ⟨a, o, e1, e2, e3, e4, e5, e6⟩ := r.ow i d k h1 h2 h3
    have oi : Own Γ σ a := ⟨i, by
      cases k with
      | fz => exact absurd rfl h2
      | ow => exact .inl h1
      | io => exact .inr h1, e1⟩
    have na : ¬ P a := fun z => (hP a z).1 oi
    refine ⟨a, o, e1, ?_, x.h a o e3 na, e4.mono x.f, e5, e6⟩
    cases ef : F' a with
    | none => rfl
    | some z =>
      rcases x.g a (by rw [ef]; simp) with z | z
      · exact absurd e2 z
      · rw [e3] at z; cases z
  dj := r.dj
  hio := r.hio
section
variable {X : Cx} {S : Sg} {Γ Γ' : List Kd} {pos : Pos}
/-- C(..): the mirror; the first parameter is the new object -/
def mkR (r : FR) : M D := fun ρ => match r with
  | .ok .non [o] => .ok o ρ
  | .er x _ => .er x ρ
  | _ => .no
def mMk (c n m k : Nat) (gD : List D → List D → List D) (MF : MFn) (a b : M (List D)) : M D := a.bind fun ds => b.bind fun es => if ds.length = n ∧ es.length = m ∧ (gD ds es).length = k then mkR (MF (.obj c [] :: gD ds es)) else M.opt none
theorem tr_mk {ks : List Kd} {MF : MFn} {c n m : Nat} {gD : List D → List D → List D} {gV : List V → List V → List V} {ma mk : M (List D)} (hks : allFz ks = true) (hge : GeLe Γ S.ge) (hgr : ∀ F x vs ds zs es, RpL S.C.K S.C.ct F ds vs → RpL S.C.K S.C.ct F es zs → ∃ ws, gV (x :: vs) zs = x :: ws ∧ RpL S.C.K S.C.ct F (gD ds es) ws)
    {σ : L2.St} {H : Hp} {Q : VK} (q : Tr S Γ (rO S) (mMk c n m ks.length gD MF ma mk) σ H Q) : tMkG (S.C.ct c).1 n m (SpG S.C.K S.C.ct (.io :: ks) false MF) gV S.W (Tr S Γ (rL S) ma) (Tr S Γ (rL S) mk) σ H Q := by
  obtain ⟨F, q⟩ := q
  refine ⟨F, (TrF.bind (R1 := rL S) rO_late q).mono fun vs H1 ⟨ds, F1, r, x1, q⟩ => ⟨F1, (TrF.bind (R1 := rL S) rO_late q).mono fun zs H2 ⟨es, F2, r2, x2, q⟩ => ?_⟩⟩
  split at q
  · rename_i hl
    have ra : RpL S.C.K S.C.ct F2 ds vs := RpL.mono x2.f r
    have rb : RpL S.C.K S.C.ct F2 es zs := r2
    refine ⟨by rw [← ra.length]; exact hl.1, by rw [← rb.length]; exact hl.2.1, fun x dx hx hdx hne => ?_⟩
    obtain ⟨ws, eg, rw'⟩ := hgr F2 (.ref x) vs ds zs es ra rb
    rw [eg]
    obtain ⟨ρ, rs, h⟩ := q
    have hx' : upd H2 dx (.own x) x = none := by rw [upd_ne (Ne.symm hne)]; exact hx
    have rs2 := (rs.newH (o := .own x) hdx).newH (p := x) (o := .ins (S.C.ct c).1 dx []) hx'
    obtain ⟨q1, q2⟩ := arl_fz (H := upd (upd H2 dx (.own x)) x (.ins (S.C.ct c).1 dx [])) hks rw' hl.2.2
    have fx : F2 x = none := rs.sub.free hx
    have nO : ¬ Own Γ σ x := fun z => by
      obtain ⟨_, o, e⟩ := rs.own_some z
      rw [hx] at e; cases e
    have h0 : S.C.H0 x = none := by
      cases e0 : S.C.H0 x with
      | none => rfl
      | some y => exact absurd hx (rs.ext.n x (by rw [e0]; simp))
    have hI : ioA (.io :: ks) (.ref x :: ws) = [x] := by simp only [ioA]; rw [q2]
    have e0 : Ext (Own Γ σ) F2 H2 F2 (upd (upd H2 dx (.own x)) x (.ins (S.C.ct c).1 dx [])) := (Ext.newH hdx).trans (Ext.newH hx')
    refine ⟨F2, .obj c [] :: gD ds es, rs2.sub, ⟨.obj c [], _, x, ws, _, rfl, rfl, fx, upd_same, ?_, q1⟩, by rw [hI]; simp, ?_⟩
    · have := OwO.ins (K := S.C.K) (ct := S.C.ct) (F := F2) (c := c) (dx := dx) (fs := []) (vs := []) (rpl_nil.mpr rfl) (Nat.zero_le _)
      simpa using this
    rw [hI]
    unfold mkR at h
    have up : ∀ {F' H'}, Ext (fun a => a ∈ [x]) F2 (upd (upd H2 dx (.own x)) x (.ins (S.C.ct c).1 dx [])) F' H' → Same F' H' → RS S.C Γ F' ρ σ H' ∧ Ext (Own Γ σ) F2 H2 F' H' := fun {F' H'} y hs => by
      refine ⟨rs2.others y hs fun a ha => ?_, ?_⟩
      · have : a = x := by simpa using ha
        subst this
        exact ⟨nO, h0⟩
      · have y1 : Ext (fun b => Own Γ σ b ∨ b = x) F2 H2 F2 _ := e0.sub fun b z => .inl (.inl z)
        have y2 : Ext (fun b => Own Γ σ b ∨ b = x) F2 _ F' H' := y.sub fun b z => .inl (.inr (by simpa using z))
        exact (y1.trans y2).sub fun b z => z.elim .inl fun z => .inr (by rw [z]; exact hx)
    cases em : MF (.obj c [] :: gD ds es) with
    | no => rw [em] at h; exact h.elim
    | er z outs =>
      rw [em] at h
      intro cl dx2 F' H' y hs rx _
      obtain ⟨r3, y3⟩ := up y hs
      obtain ⟨F3, sm, re⟩ := RE.le r3 hge
      exact h cl dx2 F3 H' (y3.f.trans sm) re (rx.mono sm)
    | ok d outs =>
      rw [em] at h
      cases d <;> try exact h.elim
      match outs, h with
      | [o], h =>
        intro v F' H' y hs rt oo
        obtain ⟨r3, y3⟩ := up y hs
        refine ⟨rp_non.mp (show Rp S.C.K S.C.ct F' .non v from rt), ?_⟩
        cases oo with
        | cons z _ =>
          obtain ⟨z1, ob, z2, z3⟩ := z
          exact h (.ref x) F' H' r3 y3 ⟨x, ob, rfl, hx, z1, z2, z3⟩
  · exact q.nope.elim
/-- how a constructor binds, self first -/
structure BnM (K : Frag) (ct : Ct) (fd : FuncData) (ps : List Str) (n : Nat) (kn : List Str) (gD : List D → List D → List D) : Prop where
  ex : ∃ g gV, KBn K fd ps (n + 1) kn g gV ∧ ∀ F x vs ds zs es, RpL K ct F ds vs → RpL K ct F es zs → ∃ ws, gV (x :: vs) zs = x :: ws ∧ RpL K ct F (gD ds es) ws
variable {k n c : Nat} {f : Addr} {fd : FuncData} {ps kn : List Str} {x : Str} {p : Pos} {e : Expr} {es : List Expr} {kws : List Keyword} {ks : List Kd} {MF : MFn} {gD : List D → List D → List D} {ma mk : M (List D)}
theorem o_mk0 (M : ClM cn X k (S.C.ct c).1 f fd ps (SpG S.C.K S.C.ct (.io :: ks) false MF)) (hm : X.mg x = some (.ref (S.C.ct c).1)) (hb : BnM X.K S.C.ct fd ps 0 [] gD) (tk : Tkn cn X S.W) (hge : GeLe Γ S.ge) (hK : S.C.K = X.K) (hks : allFz ks = true := by rfl) (hg : Gl X x := by rfl) (hdb : (x == ("__debug__" : Str)) = false := by decide) :
    EvO X S Γ (.Call (.Name x p) [] [] pos) (mMk c 0 0 ks.length gD MF mNil mNil) := by
  obtain ⟨g, gV, hb, hgr⟩ := hb.ex
  refine pe_imp (pe_mk0 M hm hb tk hg hdb) fun σ H Q q => ?_
  have h := (tr_mk hks hge (by rw [hK]; exact hgr) q).elim fun F h => h.ret0 (rpl_nil.mpr rfl)
  exact h.elim fun F h => h.ret0 (rpl_nil.mpr rfl)
theorem o_mkk (M : ClM cn X k (S.C.ct c).1 f fd ps (SpG S.C.K S.C.ct (.io :: ks) false MF)) (hm : X.mg x = some (.ref (S.C.ct c).1)) (hb : BnM X.K S.C.ct fd ps n kn gD) (tk : Tkn cn X S.W) (hge : GeLe Γ S.ge) (ha : EvA X S Γ (e :: es) ma) (hkw : EvK X S Γ kws mk) (hK : S.C.K = X.K) (hks : allFz ks = true := by rfl) (hg : Gl X x := by rfl)
    (hall : (backToKw pos (keywordEach kws X.env)).all (·.1.isSome) = true := by rfl) (hkn : (backToKw pos (keywordEach kws X.env)).filterMap (·.1) = kn := by rfl) (hdb : (x == ("__debug__" : Str)) = false := by decide)
    (he : starEach (e :: es) X.env = (false, eval e X.env) :: starEach es X.env := by rfl) (hpl : ((backTo pos (starEach (e :: es) X.env)).any (·.1) || (backToKw pos (keywordEach kws X.env)).any (·.1.isNone)) = false := by rfl) :
    EvO X S Γ (.Call (.Name x p) (e :: es) kws pos) (mMk c n kn.length ks.length gD MF ma mk) := by
  obtain ⟨g, gV, hb, hgr⟩ := hb.ex
  exact pe_imp (pe_mkk M hm hb tk ha hkw hg hall hkn hdb he hpl) fun σ H Q q => tr_mk hks hge (by rw [hK]; exact hgr) q
/-! ### a slot's own object: an attribute stored -/
def mFl (i c j : Nat) (m : M D) : MS := .of m fun d ρ => match ρ[i]? with
  | some (some (.obj c' fs)) => if c' = c then (if j < fs.length then .nx (ρ.set i (some (.obj c (fs.set j d)))) else if j = fs.length then .nx (ρ.set i (some (.obj c (fs ++ [d])))) else .no) else .no
  | _ => .no
theorem putF_end {f : Str} {y : V} : ∀ {ns : List Str} {vs : List V}, ns[vs.length]? = some f → ns.Nodup → putF f y (ns.zip vs) = ns.zip (vs ++ [y])
  | [], vs, h, _ => by simp at h
  | n :: ns, [], h, _ => by
    simp at h
    subst h
    cases ns <;> simp [putF, List.zip]
  | n :: ns, v :: vs, h, nd => by
    have nd' := List.nodup_cons.mp nd
    have h' : ns[vs.length]? = some f := by simpa using h
    have ne : n ≠ f := fun z => nd'.1 (by rw [z]; exact List.mem_of_getElem? h')
    show putF f y ((n, v) :: ns.zip vs) = (n, v) :: ns.zip (vs ++ [y])
    unfold putF
    rw [if_neg ne, putF_end h' nd'.2]
theorem putF_at {f : Str} {y : V} : ∀ {ns : List Str} {vs : List V} {j : Nat}, ns[j]? = some f → j < vs.length → ns.Nodup → putF f y (ns.zip vs) = ns.zip (vs.set j y)
  | [], vs, j, h, _, _ => by simp at h
  | n :: ns, [], j, _, h, _ => by simp at h
  | n :: ns, v :: vs, 0, h, _, nd => by
    simp at h
    subst h
    show putF n y ((n, v) :: ns.zip vs) = (n, y) :: ns.zip vs
    unfold putF
    rw [if_pos rfl]
  | n :: ns, v :: vs, j + 1, h, hl, nd => by
    have nd' := List.nodup_cons.mp nd
    have h' : ns[j]? = some f := by simpa using h
    have ne : n ≠ f := fun z => nd'.1 (by rw [z]; exact List.mem_of_getElem? h')
    show putF f y ((n, v) :: ns.zip vs) = (n, v) :: ns.zip (vs.set j y)
    unfold putF
    rw [if_neg ne, putF_at h' (by simpa using hl) nd'.2]
theorem owo_obj {K : Frag} {ct : Ct} {F : Hp} {c : Nat} {fs : List D} {o : HO} (h : OwO K ct F (.obj c fs) o) : ∃ dx vs, o = .ins (ct c).1 dx ((ct c).2.zip vs) ∧ vs.length ≤ (ct c).2.length ∧ RpL K ct F fs vs := by
  generalize hd : D.obj c fs = dd at h
  cases h with
  | lst _ => cases hd
  | dK _ _ => cases hd
  | dT _ _ => cases hd
  | dti _ _ => cases hd
  | dL _ _ => cases hd
  | ins q1 q2 => cases hd; exact ⟨_, _, rfl, q2, q1⟩
theorem s_fl {i c j : Nat} {kd : Kd} {o value : Expr} {f : Str} {m : M D} {pos' : Pos} (ho : PE X o (tVar i)) (hv : EvE X S Γ value m) (hk : Γ[i]? = some kd) (hn : kd ≠ .fz) (hK : S.C.K = X.K) (cl : Cls X.K (S.C.ct c).1) (na : NoAttr X.K (S.C.ct c).1 f) (hj : (S.C.ct c).2[j]? = some f) (nd : (S.C.ct c).2.Nodup) (hz : (S.C.ct c).2.length < 1000)
    (hs : swapsWith value (some (.Attribute o f pos')) pos.line X.env = pure false := by rfl) : EvS X S Γ Γ (.Assign [.Attribute o f pos'] value pos) (mFl i c j m) := ps_imp (ps_fld ho hv hs) fun D σ H h => by
  refine (Ts.of (R := rD S) h).mono fun v H1 ⟨d, F1, ρ1, q, _, rs, h⟩ => ?_
  cases e1 : ρ1[i]? with
  | none => simp only [e1] at h; exact (show False from h).elim
  | some y =>
    cases y with
    | none => simp only [e1] at h; exact (show False from h).elim
    | some dd =>
      simp only [e1] at h
      obtain ⟨a, ob, z1, z2, z3, z4, _⟩ := rs.ow i dd kd hk hn e1
      cases dd <;> try exact (show False from h).elim
      rename_i c' fs
      simp only at h
      by_cases ec : c' = c
      · subst ec
        rw [if_pos rfl] at h
        obtain ⟨dx, vs, rfl, hl, hf⟩ := owo_obj z4
        have ow : Ow1 Γ σ i a := ⟨by
          cases kd with
          | fz => exact absurd rfl hn
          | ow => exact .inl hk
          | io => exact .inr hk, z1⟩
        have lz : ((S.C.ct c').2.zip vs).length < 1000 := by rw [List.length_zip]; omega
        refine ⟨_, z1, a, _, dx, _, rfl, z3, cl, na, lz, ?_⟩
        by_cases h1 : j < fs.length
        · rw [if_pos h1] at h
          rw [putF_at hj (by rw [← hf.length]; exact h1) nd]
          exact h σ F1 _ (Same.refl _) (rs.write ow (.ins (hf.set q j) (by rw [List.length_set]; exact hl)))
        · rw [if_neg h1] at h
          by_cases h2 : j = fs.length
          · rw [if_pos h2] at h
            have hj' : (S.C.ct c').2[vs.length]? = some f := by rw [← hf.length, ← h2]; exact hj
            rw [putF_end hj' nd]
            refine h σ F1 _ (Same.refl _) (rs.write ow (.ins (hf.append (.one q)) ?_))
            rw [List.length_append, List.length_singleton]
            exact (List.getElem?_eq_some_iff.mp hj').1
          · rw [if_neg h2] at h; exact (show False from h).elim
      · rw [if_neg ec] at h; exact (show False from h).elim
end
end G
/-! G18: methods, str of an instance, raise, try, code that is never reached. -/
namespace G
open PySem PySem.Spec PyProof.Rows L2
variable {cn : Bool}
/-! ### never -/
def mNo {α : Type} : M α := fun _ => .no
def sNo : MS := fun _ => .no
section
variable {X : Cx} {S : Sg} {Γ Γ' : List Kd}
end
/-! ### methods -/
section
variable {X : Cx} {W : WX} {k n : Nat} {f C : Addr} {fd : FuncData} {ps kn : List Str} {sp : Sp} {g : List Value → List Value → List Value} {gV : List V → List V → List V} {x m : Str} {p pos apos : Pos} {e o : Expr} {es : List Expr} {kws : List Keyword} {t tkw : TA} {ta : TE}
def tMtG (C : Addr) (m : Str) (n : Nat) (sp : Sp) (gV : List V → List V → List V) (W : WX) (ta : TE) (t : TA) : TE := fun σ H Q => ta σ H fun x H1 => ∃ a dx fs, x = .ref a ∧ H1 a = some (.ins C dx fs) ∧ fs.lookup m = none ∧
  t σ H1 fun vs H2 => (x :: vs).length = n ∧ sp (gV (x :: vs) []) H2 Q (WE W σ)
/-- str(x), x of a class with its own __str__ -/
theorem cr_strO (F : FnG X.prog X.w X.K X.mg X.base (CXn cn X.prog X.w) k f fd ps sp) (hgd : X.A.guards = some []) (hr : Room (k + 2) X.A) (hb : BnF X.K fd ps) (h1 : ps.length = 1) (hs : PySem.W.findIn X.K (.ref C) "__str__" = some (some (.ref f))) (hf : PySem.W.isFn X.K (.ref f) = true) :
    CallR X (.type "str") (fun vs H Q => ∃ a dx fs, vs = [.ref a] ∧ H a = some (.ins C dx fs) ∧ sp [.ref a] H (fun v H' => ∃ y, v = .str y ∧ Q (.str y) H') (fun _ _ _ => False)) := by
  intro pins s σ H xs us Q I r h
  obtain ⟨a, dx, fs, rfl, ha, h⟩ := h
  rw [Vals.ref1 r]
  obtain ⟨mA, O, _⟩ := ins_get I.hok ha
  obtain ⟨od, J, _⟩ := O.look
  refine PySem.W.kso_call hr.in1.in1.units0 I.kIn J hs hf ?_
  have r2 : Vals [V.ref a] [Value.ref a] := .cons rfl .nil
  refine wpAny_call (codeAny_mono (F.run X.A.in1.in1 X.stack s H ⟨[.ref a], []⟩ [.ref a] [.ref a] _ (fun _ _ _ => False) hgd hr.in1.in1 (I.env0.in1.in1) ?_ r2 h) fun r s' hq => ?_)
  · have := hb.to s [.ref a] [] I.kIn (by rw [h1]; rfl) rfl
    simpa using this
  · cases r with
    | error e =>
      exact (no_cx hq fun _ _ _ z => z).elim
    | ok fl =>
      cases fl with
      | ret u =>
        obtain ⟨v, H', I', rv, y, ev, q⟩ := I.after hq
        subst ev
        obtain ⟨t, rfl⟩ := rv
        exact ⟨.str y, H', I', ⟨t, rfl⟩, q⟩
      | next => exact False.elim hq
      | brk => exact False.elim hq
      | cont => exact False.elim hq
end
section
variable {X : Cx} {S : Sg} {Γ Γ' : List Kd} {pos : Pos} {k n c : Nat} {f : Addr} {fd : FuncData} {ps : List Str} {m : Str} {p apos : Pos} {o e : Expr} {es : List Expr} {ks : List Kd} {MF : MFn} {gD : List D → List D → List D} {mo : M D} {ma : M (List D)}
/-- o.m(..), o frozen: the mirror -/
def isObj (c : Nat) : D → Bool
  | .obj c' _ => decide (c' = c)
  | _ => false
def mMth (c n k : Nat) (gD : List D → List D → List D) (MF : MFn) (o : M D) (a : M (List D)) : M D := o.bind fun x => if isObj c x = true then a.bind fun ds => if (x :: ds).length = n ∧ (gD (x :: ds) []).length = k then frM (MF (gD (x :: ds) [])) else M.opt none else M.opt none
theorem rp_isObj {K : Frag} {ct : Ct} {F : Hp} {c : Nat} {d : D} {v : V} (h : isObj c d = true) (r : Rp K ct F d v) : ∃ a dx vs, v = .ref a ∧ F a = some (.ins (ct c).1 dx ((ct c).2.zip vs)) := by
  cases d <;> simp only [isObj] at h <;> try (cases h; done)
  rename_i c' fs
  have : c' = c := of_decide_eq_true h
  subst this
  obtain ⟨a, dx, vs, e, h1, _⟩ := rp_obj.mp r
  exact ⟨a, dx, vs, e, h1⟩
/-- str(x) of an instance: the mirror -/
def mStrO (c : Nat) (MF : MFn) (m : M D) : M D := m.bind fun x => if isObj c x = true then (match MF [x] with
  | .ok (.str y) _ => M.ret (.str y)
  | _ => M.opt none) else M.opt none
theorem e_strO (F : FnG X.prog X.w X.K X.mg X.base (CXn cn X.prog X.w) k f fd ps (SpG S.C.K S.C.ct [.fz] false MF)) (hgd : X.A.guards = some []) (hr : Room (k + 2) X.A) (hb : BnF X.K fd ps) (h1 : ps.length = 1) (hs : PySem.W.findIn X.K (.ref (S.C.ct c).1) "__str__" = some (some (.ref f))) (hf : PySem.W.isFn X.K (.ref f) = true) (he : EvE X S Γ e mo) (hm : X.mg "str" = none) (hK : S.C.K = X.K)
    (hv : bootBuiltins "str" = some (.type "str") := by decide +kernel) (hg : Gl X "str" := by rfl) (hst : starEach [e] X.env = (false, eval e X.env) :: starEach [] X.env := by rfl) :
    EvE X S Γ (.Call (.Name "str" p) [e] [] pos) (mStrO c MF mo) := pe_imp (pe_callTy (cr_strO F hgd hr hb h1 hs hf) hg hm hv (pa_cons he pa_nil hst) (by decide) (by decide) hst rfl) fun σ H Q q => by
  refine (Tr.bind (R1 := rD S) rD_late q).mono fun v H1 ⟨d, F1, r, q⟩ => ?_
  by_cases hi : isObj c d = true
  · rw [if_pos hi] at q
    obtain ⟨a, dx, vs, rfl, ha⟩ := rp_isObj hi r
    cases em : MF [d] with
    | no => rw [em] at q; exact q.nope.elim
    | er x o => rw [em] at q; exact q.nope.elim
    | ok z outs =>
      rw [em] at q
      cases z with
      | str y =>
        obtain ⟨ρ, rs, q⟩ := q
        refine ⟨a, dx, _, rfl, rs.sub _ _ ha, F1, [d], rs.sub, ⟨d, [], _, [], rfl, rfl, r, rfl, rfl⟩, List.nodup_nil, ?_⟩
        rw [em]
        intro v F' H' x hs rt _
        have x : Ext (fun _ => False) F1 H1 F' H' := x.sub fun b z => by simp [ioA] at z
        exact ⟨y, rp_str.mp (show Rp S.C.K S.C.ct F' (.str y) v from rt), q _ F' H' (rs.grow x hs) (x.sub fun _ z => z.elim) (rp_str.mpr rfl)⟩
      | _ => exact q.nope.elim
  · rw [if_neg hi] at q
    exact q.nope.elim
/-! ### raise C('..'), C without an __init__ of its own -/
def mRs (x : Ex) : MS := fun ρ => .er x ρ
/-! ### try .. except C: -/
/-- which exceptions are caught: by numbers -/
def noE (h : MS) : MS := fun ρ => match h ρ with
  | .er _ _ => .no
  | r => r
def mTry (caught : Nat → Bool) (b : MS) (h : MS) : MS := fun ρ => match b ρ with
  | .er x ρ' => if caught x.c = true then noE h ρ' else .er x ρ'
  | r => r
/-- the handler's surroundings -/
abbrev Sg.tr (S : Sg) (W : WX) (Γe : List Kd) : Sg := { S with W := W, ge := some Γe }
abbrev Sg.su (S : Sg) : Sg := { S with W := fun _ _ _ _ => False }
end
end G
/-! G19: t[::-1], {}, a module's ints; the law's end; the head's facts. -/
namespace HT
open PySem PySem.Spec PyProof.Rows
section
variable {prog : Program} {w : World} {A : Around} {E : Value → Shared → Prop} {s : Shared}
end
end HT
namespace G
open PySem PySem.Spec PyProof.Rows L2
section
variable {X : Cx} {S : Sg} {Γ : List Kd} {pos : Pos}
/-! ### t[::-1] -/
def tRv (K : Frag) (te : TE) : TE := fun σ H Q => te σ H fun x H1 => (∃ a xs, x = .ref a ∧ SqT K H1 a xs ∧ ∀ p ob, H1 p = none → ob.dict = none → Q (.ref p) (upd H1 p (mkT ob xs.reverse))) ∨ (∃ a xs, x = .ref a ∧ SqL K H1 a xs ∧ ∀ p, H1 p = none → Q (.ref p) (upd H1 p (.lst xs.reverse)))
def dRv : D → Option D
  | .tup xs => some (.tup xs.reverse)
  | .lst xs => some (.lst xs.reverse)
  | .scr ns => some (.lst (ns.map D.int).reverse)
  | _ => none
/-! ### {} and a module's int -/
def mDk : M D := M.opt (some (.dct [] []))
theorem e_gint {x : Str} {i : Int} (hm : ∃ t, X.mg x = some (.int i t)) (hg : Gl X x := by rfl) (hdb : (x == ("__debug__" : Str)) = false := by decide) : EvE X S Γ (.Name x pos) (mC (.int i)) := by
  obtain ⟨t, hm⟩ := hm
  have h : PE X (.Name x pos) (tC (.int i)) := ⟨fun pins s σ H Q I q => ld_glob I hg hm ⟨.int i, H, I, ⟨t, rfl⟩, q⟩ hdb⟩
  exact e_c h fun _ => rp_int.mpr rfl
end
/-! ### the law's end -/
theorem law_callG {P : Program} {w : World} {K : Frag} {mg mb : Str → Option Value} {k : Nat} {fa a : Addr} {fd : FuncData} {x : Str} {sp : Sp} {s₁ : Shared} {vs : List Value} {ns : List Int}
    (KX : K.In s₁.heap) (hns : s₁.heap.Ns mainGlobals mg) (hb : s₁.heap.Ns builtinsNs mb) (hbb : ∀ x : Str, x ≠ "__name__" → mb x = bootBuiltins x) (hlim : s₁.heap.NoLimit) (hg : s₁.gens = #[])
    (ha : s₁.heap.get? a = some { cls := .type "list", data := .seq vs.toArray }) (hi : IntsAre vs ns) (hl : ns.length ≤ sizeLine) (hr : Room k callerA)
    (F : ∀ base : Heap, K.In base → base.Ns mainGlobals mg → FnG P w K mg base (CXn false P w) k fa fd [x] sp) (hbind : ∀ (s : Shared) (u : Value), BindsTo s fd ⟨[u], []⟩ [(x, u)])
    (hsp : ∀ H : Hp, Only H → SqL K H a (ns.map V.int) → sp [.ref a] H (fun v _ => v = .bl true) fun _ _ _ => False) :
    codeAny (model P w) callerA (.call (.ref fa) ⟨[.ref a], []⟩) (fun r s' => r = .ok (.ret (.bool true)) ∧ OldK s₁.heap s'.heap ∧ s'.os = s₁.os ∧ AllBare s'.gens) s₁ := by
  have rv := vals_ints hi
  have lenV := hi.length
  have core : ∀ H : Hp, Only H → SqL K H a (ns.map V.int) → HOk P w H s₁.heap → (∀ b, H b ≠ none → b = a) → (H a ≠ none → K.lookup a = none) →
      codeAny (model P w) callerA (.call (.ref fa) ⟨[.ref a], []⟩) (fun r s' => r = .ok (.ret (.bool true)) ∧ OldK s₁.heap s'.heap ∧ s'.os = s₁.os ∧ AllBare s'.gens) s₁ := by
    intro H hO hS hok hA hK
    have base_of : ∀ {b : Addr} {o : Obj}, s₁.heap.get? b = some o → H b = none → (hidT s₁.heap H).get? b = some o := fun e n => hidT_get e n
    have noA : ∀ {b : Addr} {o : Obj} {es : Array DictEntry} {ep : Nat}, s₁.heap.get? b = some o → o.data = .dict es ep → H b = none := fun {b o es ep} e d => by
      cases q : H b with
      | none => rfl
      | some u =>
        have e' : b = a := hA b (by rw [q]; simp)
        subst e'
        rw [ha] at e; cases e
        have d' : Data.seq vs.toArray _ = Data.dict es ep := d
        cases d'
    have nsK : ∀ {b : Addr} {m : Str → Option Value}, s₁.heap.Ns b m → (hidT s₁.heap H).Ns b m := fun {b m} ⟨o, es, ep, e, d, r⟩ => ⟨o, es, ep, base_of e (noA e d), d, r⟩
    have hKb : K.In (hidT s₁.heap H) := fun b o e => base_of (KX b o e) (by
      cases q : H b with
      | none => rfl
      | some u =>
        have e' : b = a := hA b (by rw [q]; simp)
        subst e'
        rw [hK (by rw [q]; simp)] at e; cases e)
    have hM : Mod K mg (hidT s₁.heap H) := ⟨hKb, nsK hns, ⟨mb, nsK hb, hbb⟩, let ⟨mc, h1, h2⟩ := hlim; ⟨mc, nsK h1, h2⟩⟩
    have e0 : Env0 P w K mg (hidT s₁.heap H) callerA [] s₁ H := ⟨rfl, hM, fun b o e => of_hidT e, Nat.le_of_eq (hidT_size _ _), trivial, fun b hb => absurd (show b ∈ ([] : List Addr) from hb) (by simp), hok, .of_eq hg⟩
    refine codeAny_mono ((F _ hKb (nsK hns)).run callerA [] s₁ H ⟨[.ref a], []⟩ [.ref a] [.ref a] _ _ rfl hr e0 (hbind s₁ (.ref a)) (.cons rfl .nil) (hsp H hO hS)) fun r s' h => ?_
    cases r with
    | error e =>
      obtain ⟨_, _, _, _, _, _, _, _, _, _, _, _, z⟩ := h
      exact z.elim
    | ok fl =>
      cases fl with
      | next => exact False.elim h
      | brk => exact False.elim h
      | cont => exact False.elim h
      | ret u =>
        obtain ⟨v, H', os, bare, un, hok', r', q⟩ := h
        have q' : v = .bl true := q
        subst q'
        obtain rfl : u = Value.bool true := r'
        refine ⟨rfl, OldK.of_keep fun b o e => ?_, os, bare⟩
        cases q : H b with
        | none => exact un.keep b o e q (by intro z; exact absurd (show b ∈ ([] : List Addr) from z) (by simp)) (by simp)
        | some u =>
          rcases hO b with z | ⟨ob, xs, z⟩
          · rw [q] at z; cases z
          · have z2 := un.frzs b ob _ z
            obtain ⟨e1, _⟩ := hok b _ z
            obtain ⟨e2, _⟩ := hok' b _ z2
            rw [e] at e1; cases e1
            exact e2
  cases hk : K.lookup a with
  | some o =>
    have e := KX a o hk
    rw [ha] at e
    cases e
    refine core (fun _ => none) (fun _ => .inl rfl) (.inr ⟨_, vs.toArray, _, hk, rfl, rfl, rfl, by rw [List.size_toArray, lenV]; exact hl, by simpa using rv⟩) (fun b u z => by have z' : (none : Option HO) = some u := z; cases z') (fun b z => absurd rfl z) fun z => absurd rfl z
  | none =>
    refine core (fun b => if b = a then some (.frz { cls := .type "list", data := .seq vs.toArray } (.lst (ns.map V.int))) else none) (fun b => ?_) (.inl (.inr ⟨{ cls := .type "list", data := .seq vs.toArray }, if_pos rfl⟩)) (fun b u z => ?_) (fun b z => ?_) fun _ => hk
    · by_cases hb : b = a
      · exact .inr ⟨_, _, if_pos hb⟩
      · exact .inl (if_neg hb)
    · by_cases hb : b = a
      · have z' := (if_pos hb).symm.trans z
        cases z'
        subst hb
        exact ⟨ha, by rw [List.length_map]; exact hl, vs, _, rv, ha⟩
      · have z' := (if_neg hb).symm.trans z
        cases z'
    · by_cases hb : b = a
      · exact hb
      · exact absurd (if_neg hb) z
theorem walk_ofG {l : PySem.W.OpenLaw} {n k : Nat} {q : Program} {loose : List Str} {XP : (Str → Option Value) → Heap → Prop} {YP : World → Heap → Prop} {d : DefRec} {x : Str}
    (hn : l.most = some n) (hn2 : n ≤ sizeLine) (hdf : d.params.defaults = []) (hr : Room k callerA)
    (F : ∀ (w : World) (mg : Str → Option Value) (fa : Addr) (h : Heap), YP w h → h.Ns mainGlobals mg → mg d.name = some (.ref fa) →
      ∃ (K : Frag) (ct : Ct) (fd : FuncData) (MF : MFn), K.In h ∧ (∀ (s : Shared) (u : Value), BindsTo s fd ⟨[u], []⟩ [(x, u)]) ∧
        (∀ (ns : List Int), ns.length ≤ n → ∃ o, MF [.scr ns] = .ok (.bl true) o) ∧
        ∀ base : Heap, K.In base → base.Ns mainGlobals mg → FnG l.prog w K mg base (CXn false l.prog w) k fa fd [x] (SpG K ct [.fz] false MF)) :
    PySem.W.WalkO q loose XP YP l.row.toRowW d [] (fun f vs => PySem.call f vs) := by
  refine Att.attach_call hn hdf fun w s₀ s₁ mg mb fa o pm cd doc a vs ns G Y ho hd hcd hmg hobj hints hlen hg => ?_
  obtain ⟨K, ct, fd, MF, KX, hb, hsp, hF⟩ := F w mg fa _ Y G.T.g hmg
  refine law_callG KX G.T.g G.T.b G.T.builtins G.T.nolimit hg hobj hints (Nat.le_trans hlen hn2) hr hF hb fun H hO hS => ?_
  obtain ⟨ou, eo⟩ := hsp ns hlen
  refine ⟨H, [.scr ns], Same.refl _, ⟨_, [], _, [], rfl, rfl, rp_scr.mpr ⟨a, rfl, hS⟩, rfl, rfl⟩, List.nodup_nil, ?_⟩
  rw [eo]
  exact fun v F' H' _ _ rt _ => rp_bl.mp (show Rp K ct F' (.bl true) v from rt)
/-! ### the head's facts, with own ones -/
abbrev AlG : Type := He.AlD × Bool
/-- the written part that is looked at: what the module's names reach (their parts, what their dicts hold, the parts of that), and the statics -/
def isDct (o : Obj) : Bool := match o.data with
  | .dict _ _ => true
  | _ => false
def isDS (o : Obj) : Bool := match o.data with
  | .dict _ _ => true
  | .seq _ _ => true
  | _ => false
def refsOf (g : Addr → Option Obj) (p : Obj → Bool) (as : List Addr) : List Addr := as.flatMap fun a => match g a with
  | some o => if p o = true then (He.refsD o).filter (fun b => b != mainGlobals) else []
  | none => []
def asG (g : Addr → Option Obj) : List Addr := mainGlobals :: cStatics :: sysModules :: (fun l1 => l1 ++ (fun l2 => l2 ++ (fun l3 => l3 ++ (fun l4 => l4 ++ refsOf g isDS l4) (refsOf g (fun _ => true) l3)) (refsOf g isDct l2)) (refsOf g (fun _ => true) l1)) (refsOf g (fun _ => true) [mainGlobals])
def obsG (_ : Nat) (fa : List He.Fa) (fn : List He.DefD) (ex : Frag → Bool) (g : Addr → Option Obj) : AlG := (fun K => (He.obsD fa fn K, ex K)) (He.frG g (asG g))
def hookG (n : Nat) (fa : List He.Fa) (fn : List He.DefD) (ex : Frag → Bool) : PySem.W.Hook where
  α := AlG
  obs := fun s => obsG n fa fn ex s.heap.get?
  val := fun _ => (He.valD fn, true)
  says := fun _ h => ∃ K : Frag, K.In h ∧ He.SaysD fa fn K ∧ ex K = true
  of := fun _ _ e => ⟨_, He.frG_in, congrArg Prod.fst e, congrArg Prod.snd e⟩
  keeps := fun _ _ _ ⟨K, hK, c⟩ k => ⟨K, PySem.W.Frag.In.keeps hK k, c⟩
theorem obsG_eq {n : Nat} {fa : List He.Fa} {fn : List He.DefD} {ex : Frag → Bool} {g : Addr → Option Obj} {s : Shared} (h : ∀ a, g a = s.heap.get? a) : obsG n fa fn ex g = (hookG n fa fn ex).obs s := by
  have e : g = s.heap.get? := funext h
  rw [e] <;> rfl
/-- isinstance's facts of an own class, by looking -/
def clsFB (K : Frag) (C : Addr) : Bool := decide (PySem.W.findIn K (.ref C) "__class__" = some (some (.builtin "object.__class__"))) && decide (PySem.W.specialIn K (.builtin "object.__class__") "__get__" = some (some (.builtin "getset_descriptor.__get__"))) && decide (PySem.W.takesIn K (.builtin "object.__class__") = some true) && decide (PySem.W.mroIn K C (.type "object") = some true)
theorem clsF_of {K : Frag} {C : Addr} (cl : Cls K C) (h : clsFB K C = true) : ClsF K C := by
  unfold clsFB at h
  simp only [Bool.and_eq_true, decide_eq_true_eq] at h
  exact ⟨cl, h.1.1.1, h.1.1.2, h.1.2, h.2⟩
def notBB (K : Frag) (C : Addr) : Bool := ["NoneType", "bool", "int", "str", "tuple", "list", "dict"].all fun t => decide (PySem.W.kitOne K (.type t) (.ref C) = some false)
theorem notB_of {K : Frag} {C : Addr} (h : notBB K C = true) : NotB K C := fun t ht => by
  unfold notBB at h
  exact of_decide_eq_true (List.all_eq_true.mp h t ht)
/-- an empty tuple that stands in the module's part -/
def tup0B (K : Frag) (a : Addr) : Bool := match K.lookup a with
  | some ⟨.type c, none, .seq its _, _⟩ => decide (c = "tuple") && decide (its.size = 0)
  | _ => false
theorem tup0_of {K : Frag} {ct : Ct} {a : Addr} (h : tup0B K a = true) (F : Hp) : Rp K ct F (.tup []) (.ref a) := by
  unfold tup0B at h
  split at h
  · rename_i c its n sl e
    simp only [Bool.and_eq_true, decide_eq_true_eq] at h
    obtain ⟨rfl, h2⟩ := h
    refine rp_tup.mpr ⟨a, [], rfl, ⟨.inr ⟨_, its, n, e, rfl, rfl, by rw [h2]; exact Nat.zero_le _, ?_⟩, fun _ => .inr ⟨_, e, rfl⟩, fun _ => .inr ⟨_, e⟩⟩, rpl_nil.mpr rfl⟩
    have : its.toList = [] := by
      have := Array.length_toList (xs := its)
      rw [h2] at this
      exact List.length_eq_zero_iff.mp this
    rw [this]
    exact .nil
  · cases h
/-- a keyword-only default's address -/
def kwAt (p : Str × Option Str) (x : Str) (K : Frag) : Addr := match K.lookup (He.fAd K p) with
  | some ⟨_, _, .func fd, _⟩ => (match fd.kwdefaults with
    | .ref D => (match PySem.W.nsIn K D x with
      | some (some (.ref a)) => a
      | _ => 0)
    | _ => 0)
  | _ => 0
end G
/-! G20: binding by places, what a law's head gives. -/
namespace G
open PySem PySem.Spec PyProof.Rows L2
def pickL {α : Type} (is : List Nat) (xs : List α) : List α := is.filterMap fun i => xs[i]?
theorem vals_at : ∀ {vs : List V} {us : List Value} (h : Vals vs us) (i : Nat), (vs[i]? = none ∧ us[i]? = none) ∨ ∃ v u, vs[i]? = some v ∧ us[i]? = some u ∧ RelV v u
  | _, _, .nil, i => .inl ⟨by simp, by simp⟩
  | _, _, .cons r h, 0 => .inr ⟨_, _, rfl, rfl, r⟩
  | _, _, .cons r h, i + 1 => by simpa using vals_at h i
theorem vals_pick {vs : List V} {us : List Value} (h : Vals vs us) : ∀ is : List Nat, Vals (pickL is vs) (pickL is us)
  | [] => .nil
  | i :: is => by
    unfold pickL
    rcases vals_at h i with ⟨e1, e2⟩ | ⟨v, u, e1, e2, r⟩
    · rw [List.filterMap_cons_none e1, List.filterMap_cons_none e2]
      exact vals_pick h is
    · rw [List.filterMap_cons_some e1, List.filterMap_cons_some e2]
      exact .cons r (vals_pick h is)
theorem rpl_ix {K : Frag} {ct : Ct} {F : Hp} : ∀ {ds : List D} {vs : List V} (h : RpL K ct F ds vs) (i : Nat), (ds[i]? = none ∧ vs[i]? = none) ∨ ∃ d v, ds[i]? = some d ∧ vs[i]? = some v ∧ Rp K ct F d v
  | [], vs, h, i => by
    have := rpl_nil.mp h
    subst this
    exact .inl ⟨by simp, by simp⟩
  | d :: ds, vs, h, 0 => by
    obtain ⟨v, ws, rfl, r, _⟩ := rpl_cons.mp h
    exact .inr ⟨d, v, rfl, rfl, r⟩
  | d :: ds, vs, h, i + 1 => by
    obtain ⟨v, ws, rfl, _, r⟩ := rpl_cons.mp h
    simpa using rpl_ix r i
theorem rpl_pick {K : Frag} {ct : Ct} {F : Hp} {ds : List D} {vs : List V} (h : RpL K ct F ds vs) : ∀ is : List Nat, RpL K ct F (pickL is ds) (pickL is vs)
  | [] => rpl_nil.mpr rfl
  | i :: is => by
    unfold pickL
    rcases rpl_ix h i with ⟨e1, e2⟩ | ⟨d, v, e1, e2, r⟩
    · rw [List.filterMap_cons_none e1, List.filterMap_cons_none e2]
      exact rpl_pick h is
    · rw [List.filterMap_cons_some e1, List.filterMap_cons_some e2]
      exact rpl_cons.mpr ⟨_, _, rfl, r, rpl_pick h is⟩
theorem pick_succ {α : Type} {x : α} {r : List α} : ∀ is : List Nat, pickL (is.map (· + 1)) (x :: r) = pickL is r
  | [] => rfl
  | i :: is => by
    have ih := pick_succ (x := x) (r := r) is
    unfold pickL at ih ⊢
    rw [List.map_cons]
    have e : (x :: r)[i + 1]? = r[i]? := by simp
    cases q : r[i]? with
    | none => rw [List.filterMap_cons_none (by rw [e, q]), List.filterMap_cons_none q, ih]
    | some y => rw [List.filterMap_cons_some (by rw [e, q]), List.filterMap_cons_some q, ih]
section
variable {K : Frag} {ct : Ct} {x qual : Str} {params : Arguments} {body : List Stmt} {scope : Scope} {dvs : List V} {kws : List (Str × V)} {f : Addr} {fd : FuncData} {ps : List Str}
/-- .. defaults of both kinds -/
theorem kb_k (F : FunD K x qual params body scope dvs kws f fd) (n : Nat) (ks : List Str) (ms : List (Str × V)) (is : List Nat) (hd : dvs ≠ []) (hk : kws ≠ []) (hms : ∀ q ∈ ms, q ∈ kws)
    (h : ∀ (T D : Addr) (doc pm : Value) (an : Option Addr) (cdv ct : Value) (us its mv ws : List Value), us.length = n → its.length = dvs.length → mv.length = ms.length → ws.length = ks.length →
      ∃ k, bindArgs (PySem.W.fnOf x qual params body scope (.ref T) (.ref D) doc pm an cdv ct) ⟨us, ks.zip ws⟩ = seqItems? (.ref T) >>= k ∧ KwChain D ((ms.map (·.1)).zip mv) (k (some its.toArray)) (ps.zip (pickL is (us ++ its ++ mv ++ ws)))) :
    ∃ g, KBn K fd ps n ks g (fun vs zs => pickL is (vs ++ dvs ++ ms.map (·.2) ++ zs)) := by
  obtain ⟨its, mv, kb⟩ := F.kbinds n ks ms (fun vs ds mz zs => pickL is (vs ++ ds ++ mz ++ zs)) hd hk hms (fun r1 r2 r3 r4 => vals_pick (((r1.append r2).append r3).append r4) is) h
  exact ⟨_, kb⟩
theorem bnM_k (F : FunD K x qual params body scope dvs kws f fd) (n : Nat) (ks : List Str) (ms : List (Str × V)) (is : List Nat) (dd : List D) (hd : dvs ≠ []) (hk : kws ≠ []) (hms : ∀ q ∈ ms, q ∈ kws) (hr : ∀ F, RpL K ct F dd (dvs ++ ms.map (·.2)))
    (h : ∀ (T D : Addr) (doc pm : Value) (an : Option Addr) (cdv ct : Value) (us its mv ws : List Value), us.length = n + 1 → its.length = dvs.length → mv.length = ms.length → ws.length = ks.length →
      ∃ k, bindArgs (PySem.W.fnOf x qual params body scope (.ref T) (.ref D) doc pm an cdv ct) ⟨us, ks.zip ws⟩ = seqItems? (.ref T) >>= k ∧ KwChain D ((ms.map (·.1)).zip mv) (k (some its.toArray)) (ps.zip (pickL (0 :: is.map (· + 1)) (us ++ its ++ mv ++ ws)))) :
    BnM K ct fd ps n ks (fun ds es => pickL is (ds ++ dd ++ es)) := by
  obtain ⟨g, kb⟩ := kb_k F (n + 1) ks ms (0 :: is.map (· + 1)) hd hk hms h
  refine ⟨g, _, kb, fun F x vs ds zs es r1 r2 => ⟨_, ?_, rpl_pick ((r1.append (hr F)).append r2) is⟩⟩
  have e : pickL (0 :: is.map (· + 1)) (x :: vs ++ dvs ++ ms.map (·.2) ++ zs) = x :: pickL (is.map (· + 1)) (x :: (vs ++ (dvs ++ ms.map (·.2)) ++ zs)) := by
    have e1 : x :: vs ++ dvs ++ ms.map (·.2) ++ zs = x :: (vs ++ (dvs ++ ms.map (·.2)) ++ zs) := by simp
    rw [e1]
    unfold pickL
    rw [List.filterMap_cons_some (b := x) (by simp)]
  rw [e, pick_succ]
end
theorem tk_no {cn : Bool} {X : Cx} : Tkn cn X (fun _ _ _ _ => False) := by
  cases cn with
  | true => exact fun _ _ ⟨_, _, _, _, _, _, _, _, _, _, _, _, _, _, _, _, w⟩ => w.elim
  | false => exact fun _ _ ⟨_, _, _, _, _, _, _, _, _, _, _, _, _, _, _, _, w⟩ => w.elim
/-- what the head gives of a module's part -/
structure HyG (fa : List He.Fa) (fn : List He.DefD) (ex : Frag → Bool) (K : Frag) (mg : Str → Option Value) (h : Heap) : Prop where
  kx : K.In h
  ns : h.Ns mainGlobals mg
  says : He.SaysD fa fn K
  ex : ex K = true
section
variable {fa : List He.Fa} {fn : List He.DefD} {ex : Frag → Bool} {K : Frag} {mg : Str → Option Value} {h : Heap}
theorem HyG.free (y : HyG fa fn ex K mg h) (i : Nat) {x : Str} (e : fa[i]? = some (.free x) := by rfl) : mg x = none := He.free_ok y.kx y.ns (y.says.fact i e)
theorem HyG.glo (y : HyG fa fn ex K mg h) (i : Nat) {x : Str} (e : fa[i]? = some (.glo x) := by rfl) : mg x = some (.ref (He.ga K x)) := He.glo_ok y.kx y.ns (y.says.fact i e)
theorem HyG.int_ (y : HyG fa fn ex K mg h) (i : Nat) {x : Str} {k : Int} (e : fa[i]? = some (.int x k) := by rfl) : ∃ t, mg x = some (.int k t) := He.int_ok y.kx y.ns (y.says.fact i e)
theorem HyG.cls_ (y : HyG fa fn ex K mg h) (i : Nat) {x : Str} (e : fa[i]? = some (.cls x) := by rfl) : Cls K (He.ga K x) := He.cls_ok (y.says.fact i e)
theorem HyG.noat (y : HyG fa fn ex K mg h) (i : Nat) {x f : Str} (e : fa[i]? = some (.noat x f) := by rfl) : NoAttr K (He.ga K x) f := He.noat_ok (y.says.fact i e)
theorem HyG.meth (y : HyG fa fn ex K mg h) (i : Nat) {x m : Str} (e : fa[i]? = some (.meth x m) := by rfl) : Meth K (He.ga K x) m (He.ma K (He.ga K x) m) := He.meth_ok (y.says.fact i e)
theorem HyG.mkr (y : HyG fa fn ex K mg h) (i : Nat) {x : Str} (e : fa[i]? = some (.mkr x) := by rfl) : Mk K (He.ga K x) (He.ma K (He.ga K x) "__init__") := He.mkr_ok (y.says.fact i e)
theorem HyG.exc (y : HyG fa fn ex K mg h) (i : Nat) {x : Str} (e : fa[i]? = some (.exc x) := by rfl) : PySem.W.excIn K (He.ga K x) He.veBase "ValueError.__new__" = true ∧ PySem.W.keepIn K (.ref (He.ga K x)) = true ∧ PySem.W.subIn K (.ref (He.ga K x)) (.type "BaseException") = some true ∧ PySem.W.typeIn K (.ref (He.ga K x)) = some (.type "type") := He.exc_ok (y.says.fact i e)
theorem HyG.exm (y : HyG fa fn ex K mg h) (i : Nat) {x z : Str} {b : Bool} (e : fa[i]? = some (.exm x z b) := by rfl) : PySem.W.exmOne K (.ref (He.ga K x)) (.ref (He.ga K z)) = some b := He.exm_ok (y.says.fact i e)
theorem HyG.raises (y : HyG fa fn ex K mg h) {X : Cx} (i : Nat) {x : Str} (e : fa[i]? = some (.exc x) := by rfl) (hK : X.K = K := by rfl) : Raises X (.ref (He.ga K x)) := by
  subst hK
  obtain ⟨_, _, h1, h2⟩ := He.exc_ok (y.says.fact i e)
  exact raises_own h1 h2
end
end G
/-! G21: min/max of two texts, tuple.index, tuple * int, a try that never raises. -/
namespace G
open PySem PySem.Spec PyProof.Rows L2
/-! ### min, max of two, by any order of these two -/
section
variable {prog : Program} {w : World} {A : Around} {E : Value → Shared → Prop} {s : Shared} {Q : Value → Shared → Prop} {a b : Value}
end
section
variable {prog : Program} {w : World} {A : Around} {x y : Str} {t u : Tok}
/-- the text at a place of two -/
def strOf2 (x y : Str) (i : Nat) : Str := if i = 0 then x else y
end
section
variable {X : Cx} {K : Frag} {ct : Ct}
def dMax2S : List D → Option D
  | [.str i, .str j] => some (.str (if decide (i.cps.toList < j.cps.toList) then j else i))
  | _ => none
def dMin2S : List D → Option D
  | [.str i, .str j] => some (.str (if decide (j.cps.toList < i.cps.toList) then j else i))
  | _ => none
end
/-! ### t.index(x): texts -/
def isTp : D → Bool
  | .tup _ => true
  | _ => false
def dTix : D → List D → Option D
  | .tup xs, [.str z] => (dStrs xs).bind fun ys => if z ∈ ys then some (.int (ys.idxOf z : Nat)) else none
  | _, _ => none
/-- a tuple of texts alone, not empty -/
def isTs : D → Bool
  | .tup xs => !xs.isEmpty && xs.all fun d => match d with | .str _ => true | _ => false
  | _ => false
def mTix (o : M D) (a : M (List D)) : M D := o.bind fun d => if isTs d = true then a.bind fun ds => M.opt (dTix d ds) else M.opt none
section
variable {X : Cx} {S : Sg} {Γ : List Kd} {pos : Pos}
end
/-! ### tuple * int -/
def dMulT : D → D → Option D
  | .tup x, .int k => if 2 ≤ k ∧ k ≤ 16000 ∧ x ≠ [] ∧ x.length ≤ 1000 then some (.tup (List.replicate k.toNat x).flatten) else none
  | _, _ => none
section
variable {X : Cx} {S : Sg} {Γ Γ' : List Kd} {pos : Pos} {K : Frag} {ct : Ct}
/-! ### a try whose body raises nothing -/
end
end G
/-! G22: x += e, x -= e, x *= e on whole numbers. -/
namespace G
open PySem PySem.Spec PyProof.Rows L2
def dAI : D → D → Option D
  | .int i, .int j => some (.int (i + j))
  | _, _ => none
def dSI : D → D → Option D
  | .int i, .int j => some (.int (i - j))
  | _, _ => none
def dMI : D → D → Option D
  | .int i, .int j => if CMul i j then some (.int (i * j)) else none
  | _, _ => none
section
variable {X : Cx} {S : Sg} {Γ Γ' : List Kd} {pos : Pos} {K : Frag} {ct : Ct}
end
end G
/-! G23: xs.remove(text), xs a list of texts. -/
namespace G
open PySem PySem.Spec PyProof.Rows L2
def eqSv (k : Str) (v : Value) : Bool := match v with
  | .str n _ => n.cps.toList == k.cps.toList
  | _ => false
def rRemS : V → List V → Hp → VK → Prop := fun x xs H Q => ∃ (l : Addr) (ns : List Str) (k : Str) (j : Nat), x = .ref l ∧ xs = [.str k] ∧ H l = some (.lst (ns.map V.str)) ∧ ns[j]? = some k ∧ (∀ m : Nat, m < j → ns[m]? ≠ some k) ∧ Q .non (upd H l (.lst ((ns.eraseIdx j).map V.str)))
def hRemS : D → List D → Option (D × D)
  | .lst xs, [.str k] => (dStrs xs).bind fun ys => if k ∈ ys then some (.non, .lst ((ys.erase k).map D.str)) else none
  | _, _ => none
end G
/-! G24: xs.index(text), xs a list of texts. -/
namespace G
open PySem PySem.Spec PyProof.Rows L2
def isLs : D → Bool
  | .lst _ => true
  | _ => false
def dLix : D → List D → Option D
  | .lst xs, [.str z] => (dStrs xs).bind fun ys => if z ∈ ys then some (.int (ys.idxOf z : Nat)) else none
  | _, _ => none
def mLix (o : M D) (a : M (List D)) : M D := o.bind fun d => if isLs d = true then a.bind fun ds => M.opt (dLix d ds) else M.opt none
section
variable {X : Cx} {S : Sg} {Γ : List Kd} {pos : Pos}
end
end G
/-! G25: int(n), int(truth). -/
namespace G
open PySem PySem.Spec PyProof.Rows L2
def dIntOf : List D → Option D
  | [.int i] => some (.int i)
  | [.bl k] => some (.int (if k then 1 else 0))
  | _ => none
section
variable {X : Cx} {K : Frag} {ct : Ct}
theorem b_int : Bi X K ct (.type "int") dIntOf := ⟨_, call_int1, by
  intro F H ds d vs Q hs r e q
  unfold dIntOf at e
  split at e
  · replace r := rvl_one r
    obtain ⟨v, rfl, r⟩ := r
    rw [rv_int] at r
    cases e
    exact .inl ⟨_, by rw [r], q _ _ _ .same (rp_int.mpr rfl)⟩
  · replace r := rvl_one r
    obtain ⟨v, rfl, r⟩ := r
    rw [rv_bl] at r
    cases e
    exact .inr ⟨_, by rw [r], q _ _ _ .same (rp_int.mpr rfl)⟩
  · cases e⟩
end
end G
/-! G26: defs with defaults, called by places. -/
namespace G
open PySem PySem.Spec PyProof.Rows L2
section
variable {K : Frag} {ct : Ct} {fd : FuncData} {ps : List Str}
end
end G
/-! G26q: quiet defs: they call no def and raise nothing; they may be called where an exception is handled. -/
namespace G
open PySem PySem.Spec PyProof.Rows L2 L2H
variable {cn : Bool}
/-- the promise of a quiet def -/
structure FnQ (P : Program) (w : World) (K : Frag) (mg : Str → Option Value) (base : Heap) (CX : CXT) (k : Nat) (f : Addr) (fd : FuncData) (ps : List Str) (sp : Sp) : Prop where
  len : ∀ vs H Q E, sp vs H Q E → vs.length = ps.length
  run : ∀ (A : Around) (outer : List PySem.Env) (s : Shared) (H : Hp) (args : Args) (us : List Value) (vs : List V) (Q : VK) (E : XK), A.guards = some [] → RoomH k A → Env0 P w K mg base A outer s H → BindsTo s fd args (ps.zip us) → Vals vs us → sp vs H Q E →
    codeAny (model P w) A (.call (.ref f) args) (CR CX outer P w H s Q E) s
theorem FnQ.mono {P : Program} {w : World} {K : Frag} {mg : Str → Option Value} {base : Heap} {CX : CXT} {j k : Nat} {f : Addr} {fd : FuncData} {ps : List Str} {sp : Sp} (F : FnQ P w K mg base CX j f fd ps sp) (h : j ≤ k) : FnQ P w K mg base CX k f fd ps sp :=
  ⟨F.len, fun A outer s H args us vs Q E hg hr => F.run A outer s H args us vs Q E hg (hr.mono h)⟩
theorem FnQ.g {P : Program} {w : World} {K : Frag} {mg : Str → Option Value} {base : Heap} {CX : CXT} {k : Nat} {f : Addr} {fd : FuncData} {ps : List Str} {sp : Sp} (F : FnQ P w K mg base CX k f fd ps sp) : FnG P w K mg base CX k f fd ps sp :=
  ⟨F.len, fun A outer s H args us vs Q E hg hr => F.run A outer s H args us vs Q E hg (roomH_of hr)⟩
abbrev cxQ (CX : CXT) (P : Program) (w : World) (K : PySem.W.Frag) (mg : Str → Option Value) (base : Heap) (N : List Str) (qual : Str) (scope : Scope) (f : Addr) (cd : Value) (A : Around) (outer : List PySem.Env) (s : Shared) (H : Hp) (E : XK) : Cx :=
  { cxOf CX P w K mg base N qual scope f cd A outer s H E with calm := false }
theorem inv_startQ {CX : CXT} {P : Program} {w : World} {K : PySem.W.Frag} {mg : Str → Option Value} {base : Heap} {N ps : List Str} {qual : Str} {scope : Scope} {f : Addr} {cd : Value} {A : Around} {outer : List PySem.Env} {s s1 : Shared} {H : Hp} {E : XK} {us : List Value} {vs : List V}
    (S : FnScope N ps scope) (e0 : Env0 P w K mg base A outer s H) (hl : vs.length = ps.length) (r : Vals vs us)
    (x : InCallC s s.heap.objs.size (bindL (envOfC qual scope s.heap.objs.size f cd).kindOf (ps.zip us) fun _ => none) (cellsFrom (s.heap.objs.size + 1) scope.names []) (bindC (envOfC qual scope s.heap.objs.size f cd).kindOf (ps.zip us) fun _ => none) s1) :
    Inv (cxQ CX P w K mg base N qual scope f cd A outer s H E) [] (L2.start N vs) H s1 := by
  have hpl : ps.length ≤ N.length := by have := congrArg List.length S.pre; rw [List.length_take] at this; omega
  obtain ⟨h1, tk, rfl, hk⟩ := x.done
  have noA : ∀ b : Addr, b ∉ (cxQ CX P w K mg base N qual scope f cd A outer s H E).ex := fun b z => absurd (show b ∈ ([] : List Addr) from z) (by simp)
  refine ⟨⟨e0.mod, S.kind, rfl, rfl, Nat.le_refl _, fun y z c h1 h2 => ?_, fun y hy => ?_, fun y c _ h => ?_, (fun z => Bool.noConfusion (show false = true from z)), Around.frames_deeper e0.frames, .inr ⟨rfl, rfl⟩, fun b z => absurd z (noA b), e0.bs, e0.bsz, fun b _ _ => noA b, fun b z => absurd z (noA b), e0.funs, e0.frf⟩,
    rfl, e0.bare, Un.kept hk, ⟨_, x.toInCall.ns, fun i y v h1 h2 h3 => ?_⟩, fun y c h => ⟨_, x.cell y c h⟩, e0.hok.fresh (Nat.le_refl _), fun y c h => ?_, fun q hq => ?_, e0.hok.kept hk, ?_⟩
  · exact name_of_addr x.apart (PySem.mem_of_lookup h1) (PySem.mem_of_lookup h2)
  · have hy : scope.names.lookup y = some .cell ∨ scope.names.lookup y = some .free := hy
    rcases hy with hy | hy
    · exact cell_has hy
    · exact absurd rfl (S.nofree _ (PySem.mem_of_lookup hy))
  · exact Nat.le_of_lt (x.above y c (PySem.mem_of_lookup h))
  · have hi : i < vs.length := by
      unfold L2.start at h2
      by_cases hi : i < vs.length
      · exact hi
      · rw [List.getElem?_append_right (by simpa using hi)] at h2
        rw [List.getElem?_replicate] at h2
        split at h2 <;> cases h2
    have ha : vs[i]? = some v := by
      unfold L2.start at h2
      rw [List.getElem?_append_left (by simpa using hi), List.getElem?_map] at h2
      cases e : vs[i]? with
      | none => rw [e] at h2; cases h2
      | some a => rw [e] at h2; cases h2; rfl
    obtain ⟨u, hu, rv⟩ := r.get ha
    have hp : ps[i]? = some y := by
      rw [← S.pre, List.getElem?_take_of_lt (by omega)]; exact h1
    have ndP : ps.Nodup := by rw [← S.pre]; exact S.nd.sublist (List.take_sublist _ _)
    refine ⟨u, rv, ?_⟩
    rcases S.par y (List.mem_of_getElem? hp) with k | k
    · exact .inl ⟨k, bindL_get ndP hp hu k⟩
    · obtain ⟨c, e⟩ := cell_has (n := s.heap.objs.size + 1) k
      refine .inr ⟨.inl k, c, e, ?_⟩
      have q := x.cell y c e
      rw [bindC_get ndP hp hu (by show scope.names.lookup y ≠ _; rw [k]; decide)] at q
      exact q
  · exact e0.hok.fresh (Nat.le_of_lt (x.above y c (PySem.mem_of_lookup h)))
  · exact absurd (show q ∈ ([] : List (Addr × Obj)) ++ [] from hq) (by simp)
  · unfold L2.start
    show _ = N.length
    rw [List.length_append, List.length_map, List.length_replicate]
    omega
/-- THE RULE, for a quiet def, by its body -/
theorem fn_anyQ {CX : CXT} {P : Program} {w : World} {K : Frag} {mg : Str → Option Value} {base : Heap} {k : Nat} {f : Addr} {x qual : Str} {params : Arguments} {body : List Stmt} {scope : Scope} {dvs : List V} {kws : List (Str × V)} {fd : FuncData}
    {N ps : List Str} {sp : Sp} (Fd : FunD K x qual params body scope dvs kws f fd) (Sc : FnScope N ps scope) (len : ∀ vs H Q E, sp vs H Q E → vs.length = ps.length)
    (hbody : ∀ (cdv : Value) (A : Around) (outer : List PySem.Env) (s : Shared) (H : Hp) (vs : List V) (Q : VK) (E : XK), A.guards = some [] → RoomH k (A.deeper (envOfC qual scope s.heap.objs.size f cdv)) → sp vs H Q E →
      ∃ t, PSs (cxQ CX P w K mg base N qual scope f cdv A outer s H E) body t ∧ t { nx := fun _ H' => Q .non H', rt := Q } (L2.start N vs) H) :
    FnQ P w K mg base CX (k + 1) f fd ps sp := by
  obtain ⟨oc, od, dV, kV, doc, pm, an, cdv, ct', osl, rfl, lk, hcd, _, _⟩ := Fd.ex
  refine ⟨len, fun A outer s H args us vs Q E hgd hr e0 hb' r hsp => ?_⟩
  have hln := len _ _ _ _ hsp
  have KX : K.In s.heap := e0.mod.kin.keeps fun b o e => (e0.bs b o e).1
  have lim : s.heap.NoLimit := e0.mod.nolimit.keeps fun b o e => (e0.bs b o e).1
  have hkind : ∀ y ∈ ps.zip us, scope.names.lookup y.1 = some .local ∨ (scope.names.lookup y.1 = some .cell ∧ ((cellsFrom (s.heap.objs.size + 1) scope.names []).lookup y.1).isSome = true) := fun ⟨n, v⟩ hy => by
    rcases Sc.par n (List.of_mem_zip hy).1 with q | q
    · exact .inl q
    · exact .inr ⟨q, PySem.W.cellsFrom_some _ _ _ (.inl q)⟩
  refine codeAny_call_function hr.depth (KX _ _ lk) rfl Sc.co Sc.gen rfl (PySem.W.codeRec_of KX hcd) (hb' _ _ _ _ ?_)
  refine wpAny_newFunctionEnv_cells Sc.kind hkind fun env he s1 x => ?_
  subst he
  refine ⟨lim.keeps x.toInCall.keep, codeAny_func ?_⟩
  obtain ⟨t, ht, hq⟩ := hbody cdv A outer s H vs Q E hgd (hr.deeper _) hsp
  have I : Inv (cxQ CX P w K mg base N qual scope f cdv A outer s H E) [] (L2.start N vs) H s1 := inv_startQ Sc e0 hln r x
  refine wpAny_mono (ht.run [] s1 (L2.start N vs) H _ I hq) (fun fl s' hs => ?_) fun e s' hs => hs
  have fin : ∀ {σ' : L2.St} {H' : Hp} {v : V} {u : Value}, Inv (cxQ CX P w K mg base N qual scope f cdv A outer s H E) [] σ' H' s' → RelV v u → Q v H' → CE outer P w H s Q u s' :=
    fun {σ' H' v u} J rv q => ⟨v, H', J.os, J.bare, J.base, J.hok, rv, q⟩
  cases fl with
  | ret u =>
    obtain ⟨v, σ', H', J, rv, q⟩ := hs
    exact fin J rv q
  | next =>
    obtain ⟨σ', H', J, q⟩ := hs
    exact fin (v := V.non) (u := Value.none) J rfl q
  | brk =>
    obtain ⟨_, _, _, q⟩ := hs
    exact False.elim q
  | cont =>
    obtain ⟨_, _, _, q⟩ := hs
    exact False.elim q
/-! ### its call -/
section
variable {X : Cx} {W : WX} {k n : Nat} {f : Addr} {fd : FuncData} {ps kn : List Str} {sp : Sp} {g : List Value → List Value → List Value} {gV : List V → List V → List V} {x : Str} {p pos : Pos} {e : Expr} {es : List Expr} {t : TA}
structure FnA (cn : Bool) (X : Cx) (k : Nat) (f : Addr) (fd : FuncData) (ps : List Str) (sp : Sp) : Prop where
  fn : FnQ X.prog X.w X.K X.mg X.base (CXn cn X.prog X.w) k f fd ps sp
  gd : X.A.guards = some []
  rm : RoomH k X.A
end
section
variable {X : Cx} {S : Sg} {Γ : List Kd} {k n : Nat} {f : Addr} {fd : FuncData} {ps : List Str} {x : Str} {p pos : Pos} {e : Expr} {es : List Expr} {ks : List Kd} {MF : MFn} {gD : List D → List D → List D} {ma : M (List D)}
end
end G
/-! G27: own exceptions whose __init__ calls the base's __init__ with a text and stores one field: made, raised. -/
namespace G
open PySem PySem.Spec PyProof.Rows L2 PySem.Builtin PySem.Builtin.ObjectAttr
/-! ### own classes above a built-in exception's row of bases -/
def refsT (tl : List Value) : List Value → Bool
  | .ref _ :: r => refsT tl r
  | l => l == tl
theorem refsT_cases {tl : List Value} : ∀ l : List Value, refsT tl l = true → (∃ c r, l = .ref c :: r ∧ refsT tl r = true) ∨ l = tl
  | [], e => .inr (beq_iff_eq.mp e)
  | .ref c :: r, e => .inl ⟨c, r, rfl, e⟩
  | .none :: _, e => .inr (beq_iff_eq.mp e)
  | .ellipsis :: _, e => .inr (beq_iff_eq.mp e)
  | .notImplemented :: _, e => .inr (beq_iff_eq.mp e)
  | .bool _ :: _, e => .inr (beq_iff_eq.mp e)
  | .int _ _ :: _, e => .inr (beq_iff_eq.mp e)
  | .float _ _ :: _, e => .inr (beq_iff_eq.mp e)
  | .str _ _ :: _, e => .inr (beq_iff_eq.mp e)
  | .bytes _ _ :: _, e => .inr (beq_iff_eq.mp e)
  | .type _ :: _, e => .inr (beq_iff_eq.mp e)
  | .builtin _ :: _, e => .inr (beq_iff_eq.mp e)
/-- what is known of the built-in base -/
structure EB (B newId initId : String) (tl : List Value) : Prop where
  F : ExcBaseFacts B newId initId tl
  S : StoreFacts B tl "object.__setattr__" "object"
  ne : tl ≠ []
theorem refsT_pass {B newId initId : String} {tl : List Value} (b : EB B newId initId tl) (self : Value) : ∀ l : List Value, refsT tl l = true → refuseLoop self "__setattr__" l = pure () := by
  intro l
  induction l with
  | nil =>
    intro e
    rcases refsT_cases [] e with ⟨c, r', q, h⟩ | q
    · cases q
    · exact absurd q.symm b.ne
  | cons a r ih =>
    intro e
    rcases refsT_cases (a :: r) e with ⟨c, r', q, h⟩ | q
    · obtain ⟨rfl, rfl⟩ := List.cons.inj q
      rw [refuseLoop_ref]; exact ih h
    · rw [q]; exact b.S.passes self
theorem refsT_contains {tl : List Value} (X : String) : ∀ l : List Value, refsT tl l = true → l.contains (.type X) = tl.contains (.type X) := by
  intro l
  induction l with
  | nil =>
    intro e
    rcases refsT_cases [] e with ⟨c, r', q, h⟩ | q
    · cases q
    · rw [q]
  | cons a r ih =>
    intro e
    rcases refsT_cases (a :: r) e with ⟨c, r', q, h⟩ | q
    · obtain ⟨rfl, rfl⟩ := List.cons.inj q
      rw [List.contains_cons, ih h]; rfl
    · rw [q]
theorem refsT_ne {tl l : List Value} (n : tl ≠ []) (e : refsT tl l = true) : l.isEmpty = false := by
  cases l with
  | nil =>
    rcases refsT_cases [] e with ⟨c, r', q, h⟩ | q
    · cases q
    · exact absurd q.symm n
  | cons _ _ => rfl
theorem eb_ve : EB "ValueError" "ValueError.__new__" "ValueError.__init__" [.type "ValueError", .type "Exception", .type "BaseException", .type "object"] := ⟨PySem.F.excBase_ValueError, PySem.F.store_ValueError, by simp⟩
section
variable {prog : Program} {w : World} {A : Around} {E : Value → Shared → Prop} {R : Result → Shared → Prop} {hp : Heap} {g : Array GenState} {d : Drawn} {t : Nat} {os : OsState} {B newId initId : String} {tl : List Value}
theorem excT_osa (b : EB B newId initId tl) {K : PySem.W.Frag} {name : Str} {tk : Tok} {v : Value} {x C : Addr} {fv : Array Value} {cd : ClassData}
    (X : K.In hp) (hx : hp.get? x = some { cls := .ref C, data := .fields fv }) (hcd : PySem.W.clsIn K C = some cd) (hm : refsT tl cd.mro = true) (hh : cd.hasDict = true) (ha : PySem.W.findIn K (.ref C) name = some none)
    (hq : ∀ h' tk' dx, (∀ b o, b ≠ x → hp.get? b = some o → h'.get? b = some o) → hp.objs.size ≤ dx → dx ≠ x → h'.get? x = some { cls := .ref C, dict := some dx, data := .fields fv } →
      h'.Ns1 dx (fun y => if y = name then some v else none) → R (.ok (.ret .none)) ⟨h', g, d, tk', os⟩) :
    codeAny (model prog w) A (.call (.builtin "object.__setattr__") ⟨[.ref x, .str name tk, v], []⟩) R ⟨hp, g, d, t, os⟩ := by
  have I : PySem.W.InstAt hp x { cls := .ref C, data := .fields fv } C none := ⟨hx, rfl, rfl, trivial⟩
  have SF := F.store_object
  have ne := refsT_ne b.ne hm
  have hob : cd.mro.contains (.type "object") = true := (refsT_contains "object" _ hm).trans b.S.hasOwner
  have hxs : x ≠ hp.objs.size := Nat.ne_of_lt (Heap.lt_size hx)
  have sub : PySem.W.Looks (model prog w) hp (isInstance (.ref x) (.type "object")) true := I.type.andThen (PySem.W.looks_mroIn X (by unfold PySem.W.mroIn; rw [hcd, Option.bind_some, if_neg (by rw [ne]; decide), hob]))
  refine codeAny_call_builtin SF.slot.plain SF.entry (@PySem.W.check_slot (model prog w) _ _ ⟨hp, g, d, t, os⟩ "object.__setattr__" "object" "__setattr__" (.ref x) [.str name tk, v] [] _ SF.kind SF.split sub (SF.args (.ref x) (.str name tk) v) ?_)
  have hmr : PySem.W.Looks (model prog w) hp (mroOf (.ref C)) cd.mro := (PySem.W.looks_clsIn X hcd).andThen .now
  have L3 : PySem.W.Looks (model prog w) hp (storeTaker? none) none := .now
  have hcls : PySem.W.Looks (model prog w) hp (classData C) cd := PySem.W.looks_clsIn X hcd
  rw [PySem.W.osa_eq, refuse_eq]
  refine wpAny_bind (wpAny_bind (I.type.at (wpAny_bind (hmr.at ?_))))
  rw [refsT_pass b _ _ hm]
  refine wpAny_pure (wpAny_bind (I.type.at (wpAny_bind ((PySem.W.looks_findIn X ha).at (wpAny_bind (L3.at ?_))))))
  show wpAny _ _ (storeInOwnDict (.ref x) (.ref C) (.str name tk) name v false) _ _ _
  obtain ⟨nm, bs, mro, ns, qn, hd, sn, sb, ab, col, del⟩ := cd
  dsimp only at hh
  subst hh
  unfold storeInOwnDict ownDictForStores
  repeat (first | with_reducible refine HandSPX.store_in_new ?_ ?_ | with_reducible refine wpAny_loadPart_at hx ?_ | with_reducible refine hcls.at ?_ | wp_step)
  · exact ⟨_, #[], _, (Heap.get?_update_ne _ _ _ _ hxs.symm).trans (Heap.get?_push_at rfl rfl), rfl, fun e he => absurd he (by simp), fun _ => rfl⟩
  · intro h' tk' hn' hs
    have hx₁ : (hp.push { cls := .type "dict", data := .dict #[] }).get? x = some { cls := .ref C, data := .fields fv } := Heap.get?_push_of_some _ hx
    refine hq h' tk' hp.objs.size (fun b o hb ho => ?_) (Nat.le_refl _) hxs.symm ?_ hn'
    · exact (hs.2 b (Nat.ne_of_lt (Heap.lt_size ho))).trans ((Heap.get?_update_ne _ _ _ _ hb).trans (Heap.get?_push_of_some _ ho))
    · exact (hs.2 x hxs).trans (Heap.get?_update_self _ hx₁ rfl)
end
/-- what the written part says of the class -/
structure OexT (K : PySem.W.Frag) (tl : List Value) (newId : String) (C : Addr) : Prop where
  cls : ∃ nm q N bs bm sn sub ab col dd k0 k1 k2 k3 k5, K.lookup C = some (excClassObj nm q C N bs bm true sn sub ab col dd k0 k1 k2 k3 k5 newId) ∧ refsT tl bm = true
  sa : PySem.W.findIn K (.ref C) "__setattr__" = some (some (.builtin "object.__setattr__"))
  exC : PySem.W.subIn K (.ref C) (.type "BaseException") = some true
  tyC : PySem.W.typeIn K (.ref C) = some (.type "type")
  kC : PySem.W.keepIn K (.ref C) = true
section
variable {X : Cx} {pins : List (Addr × Obj)} {σ : L2.St} {H : Hp} {s : Shared} {a C dx : Addr} {f : Str} {y : V} {u : Value} {A : Around} {B newId initId : String} {tl : List Value}
/-- self.f = y, the first one -/
theorem ostT_new {Q : Unit → Shared → Prop} {E : Value → Shared → Prop} (b : EB B newId initId tl) (T : OexT X.K tl newId C) (I : Inv X pins σ H s) (e : H a = some (exo a C none)) (hno : PySem.W.findIn X.K (.ref C) f = some none) (ry : RelV y u)
    (h : ∀ dx s', H dx = none → dx ≠ a → Inv X pins σ (upd (upd H dx (exd dx [(f, y)])) a (exo a C (some dx))) s' → Q () s') : wpAny (model X.prog X.w) A (setAttr (.ref a) f u) Q E s := by
  obtain ⟨nm, q, N, bs, bm, sn, sub, ab, col, dd, k0, k1, k2, k3, k5, hC, hbm⟩ := T.cls
  have hcl : PySem.W.clsIn X.K C = some { name := nm, bases := bs, mro := .ref C :: bm, ns := N, qualname := q, hasDict := true, slotNames := sn, subclasses := sub, abstract := ab, collection := col, hasDel := false } := by unfold PySem.W.clsIn; rw [hC] <;> rfl
  obtain ⟨t1, ho⟩ := exo_at I.hok e
  obtain ⟨hp, g, d, t, os⟩ := s
  refine PySem.W.set_plain I.kIn (ox := { cls := .ref C, dict := none, data := .fields #[.ref t1, .none, .none, .none, .bool false, .none] }) (od := none) ⟨ho, rfl, rfl, trivial⟩ T.sa ?_
  refine excT_osa b I.kIn ho hcl (show refsT tl (.ref C :: bm) = true from hbm) rfl hno (fun h' tk' dx k dn dne hx hn => ?_)
  have hnd : H dx = none := I.hok.fresh dn
  have nd : ∀ {b : Addr} {o : Obj}, hp.get? b = some o → b ≠ dx := fun {b o} q => Nat.ne_of_lt (Nat.lt_of_lt_of_le (Heap.lt_size q) dn)
  have na : ∀ {b : Addr}, H b = none → b ≠ a := fun {b} n z => by
    rw [z, e] at n
    cases n
  have Un1 : Un X.fs [] H (upd (upd H dx (exd dx [(f, y)])) a (exo a C (some dx))) hp h' := {
    keep := fun b o q n _ _ => k b o (na n) q
    slot := fun b o q n _ _ => ⟨o.slots, k b o (na n) q⟩
    free := fun b o q n _ => by rw [upd_ne (na n), upd_ne (nd q)]; exact n
    there := fun b o q _ => by
      by_cases hb : b = a
      · exact ⟨_, by rw [hb]; exact hx⟩
      · exact ⟨o, k b o hb q⟩
    tups := fun b xs q => by rw [upd_ne (L2.at_ne e q exo_tup), upd_ne (ne_of_none q hnd)]; exact q
    frzs := fun b o v q => by rw [upd_ne (L2.at_ne e q exo_frz), upd_ne (ne_of_none q hnd)]; exact q
    tbls := fun b ps q => ⟨#[], by rw [upd_ne (L2.at_ne e q exo_tbl), upd_ne (ne_of_none q hnd), q]; simp⟩ }
  refine h dx _ hnd dne (I.un (t' := tk') Un1 fun b o q => ?_)
  by_cases hb : b = a
  · subst hb
    rw [upd_same] at q
    cases q
    exact exo_ok hx
  · rw [upd_ne hb] at q
    by_cases hd : b = dx
    · subst hd
      rw [upd_same] at q
      cases q
      exact exd_ok hn (relO_put (fs := []) ry fun g => True.intro)
    · rw [upd_ne hd] at q
      exact (I.hok b o q).stay (fun c v hc z => k c v (by
          rcases hc with hc | hc
          · rw [hc]
            exact hb
          · exact L2.at_ne e hc exo_own) z)
        (fun c hc => by rw [upd_ne (L2.at_ne e hc exo_own), upd_ne (ne_of_none hc hnd)]; exact hc) (fun c xs hc => by rw [upd_ne (L2.at_ne e hc exo_tup), upd_ne (ne_of_none hc hnd)]; exact hc)
/-- Base.__init__(self, ..) -/
theorem oinitT_ok {us : List Value} {Q : Value → Shared → Prop} {E : Value → Shared → Prop} (b : EB B newId initId tl) (T : OexT X.K tl newId C) (I : Inv X pins σ H s) (e : H a = some (exo a C none)) (hl : us.length ≤ sizeLine) (h : ∀ s', Inv X pins σ H s' → Q .none s') :
    wpAny (model X.prog X.w) A (call (.builtin initId) (.ref a :: us)) Q E s := by
  obtain ⟨nm, q, N, bs, bm, sn, sub, ab, col, dd, k0, k1, k2, k3, k5, hC, hbm⟩ := T.cls
  obtain ⟨t1, ho⟩ := exo_at I.hok e
  obtain ⟨hp, g, d, t, os⟩ := s
  refine wpAny_call (PySem.HandSPX.init_base b.F (fun Y => refsT_contains Y bm hbm) (I.kIn _ _ hC) ho hl fun h' t2 k hx => ?_)
  have J := I.write (t' := t) (x := a) (e := a) (o := exo a C none) (by rw [e]; exact True.intro) (.inl rfl) k ⟨_, hx⟩ (exo_ok hx)
  have eu : upd H a (exo a C none) = H := by
    funext b
    by_cases hb : b = a
    · rw [hb, upd_same, e]
    · rw [upd_ne hb]
  rw [eu] at J
  exact h _ J
end
/-! ### the body of such an __init__ -/
/-- what the written part says of the base's name -/
structure BaseI (K : PySem.W.Frag) (Bc : Addr) (initId : String) : Prop where
  ga : PySem.W.specialIn K (.ref Bc) "__getattribute__" = some (some (.builtin "type.__getattribute__"))
  rd : PySem.W.readsIn K Bc (.type "type") = true
  fc : PySem.W.findCls K (.ref Bc) (.type "type") "__init__" = some (.val (.builtin initId))
def tCI (K : PySem.W.Frag) (tl : List Value) (newId : String) (ta : TA) : TE := fun σ H Q => ta σ H fun vs H1 => ∃ (a C : Addr) (ws : List V), vs = .ref a :: ws ∧ ws.length ≤ 1000 ∧ OexT K tl newId C ∧ H1 a = some (exo a C none) ∧ Q .non H1
section
variable {X : Cx} {o e : Expr} {es : List Expr} {to te : TE} {ta : TA} {f x : Str} {p p' p1 p2 pos : Pos} {B newId initId : String} {tl : List Value} {Bc : Addr}
theorem pe_cinit {pl : Sem Bool} (b : EB B newId initId tl) (hb : BaseI X.K Bc initId) (hm : X.mg x = some (.ref Bc)) (hh : PySem.W.handedIn (.builtin initId) = true) (hg : Gl X x) (hdb : (x == ("__debug__" : Str)) = false) (ha : PA X (e :: es) ta)
    (hc : eval (.Call (.Attribute (.Name x p1) "__init__" p2) (e :: es) [] pos) X.env = (do
      let ov ← eval (.Name x p1) X.env
      standAt p2.atName
      let (f, first) ← holding [ov] (getMethod ov "__init__" pl)
      callWith pos f first (backTo pos (starEach (e :: es) X.env)) (backToKw pos (keywordEach [] X.env))) := by rfl)
    (he : starEach (e :: es) X.env = (false, eval e X.env) :: starEach es X.env := by rfl) (hpl : (backTo pos (starEach es X.env)).any (·.1) = false := by rfl) :
    PE X (.Call (.Attribute (.Name x p1) "__init__" p2) (e :: es) [] pos) (tCI X.K tl newId ta) := by
  refine ⟨fun pins s σ H Q I h => ?_⟩
  refine PySem.W.methodCall_KW (ld_glob I hg hm ?_ hdb) hc
  refine PySem.W.method_cls I.kIn hb.ga ?_
  refine PySem.W.cls_value I.kIn hb.rd hb.fc hh ?_
  show wpAny _ _ (callWith pos (Value.builtin initId) [] (backTo pos (starEach (e :: es) X.env)) []) _ _ _
  refine PyProof.Rows.callWith_method1 (thn (ha.run pos pins _ σ H _ (I.tok _) h) fun us s1 ⟨vs, H1, I1, r1, a, C, ws, ev, hl, T, ea, q⟩ => ?_) he hpl
  subst ev
  cases r1 with
  | @cons _ u0 _ ur ra rw' =>
    obtain rfl : u0 = Value.ref a := ra
    have hlen : ur.length ≤ sizeLine := by
      rw [← Paired.length rw', sizeLine_eq]
      omega
    exact oinitT_ok b T I1 ea hlen fun s' J => ⟨.non, H1, J, rfl, q⟩
/-- self.f = e -/
def tOsT (K : PySem.W.Frag) (tl : List Value) (newId : String) (f : Str) (to te : TE) : TS := fun D σ H => te σ H fun y H1 => to σ H1 fun x H2 => ∃ a C : Addr, x = .ref a ∧ OexT K tl newId C ∧ PySem.W.findIn K (.ref C) f = some none ∧
  H2 a = some (exo a C none) ∧ ∀ dx, H2 dx = none → dx ≠ a → D.nx σ (upd (upd H2 dx (exd dx [(f, y)])) a (exo a C (some dx)))
theorem ps_osT (b : EB B newId initId tl) (ho : PE X o to) (he : PE X e te) (hs : swapsWith e (some (.Attribute o f p')) pos.line X.env = pure false := by rfl) : PS X (.Assign [.Attribute o f p'] e pos) (tOsT X.K tl newId f to te) := by
  refine ⟨fun pins s σ H D I h => ?_⟩
  refine plainObj_wpAny_Assign_Attribute (thn (he.run pins s σ H _ I h) fun v s1 ⟨y, H1, I1, r1, q1⟩ => thn (ho.run pins s1 σ H1 _ I1 q1) fun u s2 ⟨x, H2, I2, r2, a, C, ex, T, hno, ea, q⟩ => ?_) hs
  subst ex
  obtain rfl : u = Value.ref a := r2
  exact ostT_new b T I2 ea hno r1 fun dx s' n ne J => ⟨σ, _, J, q dx n ne⟩
end
/-- the promise of such an __init__ -/
def spI (C : Addr) (f : Str) : Sp := fun vs H Q _ => ∃ a v, vs = [.ref a, v] ∧ H a = some (exo a C none) ∧ ∀ dx, H dx = none → dx ≠ a → Q .non (upd (upd H dx (exd dx [(f, v)])) a (exo a C (some dx)))
theorem fn_init {P : Program} {w : World} {K : Frag} {mg : Str → Option Value} {base : Heap} {fI C : Addr} {x qual par f txt : Str} {params : Arguments} {scope : Scope} {dvs : List V} {kws : List (Str × V)} {fd : FuncData} {newId : String} {tl : List Value} {body : List Stmt}
    (Fd : FunD K x qual params body scope dvs kws fI fd) (Sc : FnScope ["self", par] ["self", par] scope) (T : OexT K tl newId C) (hno : PySem.W.findIn K (.ref C) f = some none)
    (hb : ∀ (X : Cx) (cdv : Value) (A : Around) (outer : List PySem.Env) (s : Shared) (H : Hp) (E : XK), X = cxQ (L2.CX P w) P w K mg base ["self", par] qual scope fI cdv A outer s H E → PSs X body (tSeq (tDrop (tCI K tl newId (tCons (tVar 0) (tCons (tC (.str txt)) tNil)))) (tOsT K tl newId f (tVar 0) (tVar 1)))) :
    FnQ P w K mg base (L2.CX P w) 1 fI fd ["self", par] (spI C f) := by
  refine fn_anyQ (k := 0) Fd Sc (fun vs H Q E ⟨a, v, e, _⟩ => by rw [e]; rfl) fun cdv A outer s H vs Q E hgd hr hsp => ?_
  obtain ⟨a, v, rfl, ha, hq⟩ := hsp
  refine ⟨_, hb _ cdv A outer s H E rfl, ?_⟩
  refine ⟨.ref a, rfl, a, C, [.str txt], rfl, by simp, T, ha, ?_⟩
  refine ⟨v, rfl, .ref a, rfl, a, C, rfl, T, hno, ha, fun dx n ne => hq dx n ne⟩
/-! ### C(e) made and raised -/
def tMkT (C : Addr) (f : Str) (te : TE) : L2.St → Hp → XK → Prop := fun σ H Q => te σ H fun v H1 => ∀ d, H1 d = none → Q (.ref C) (some d) (upd H1 d (.xd [(f, v)]))
section
variable {X : Cx} {e : Expr} {te : TE} {f x par : Str} {p pos : Pos} {newId initId B : String} {tl : List Value} {C fI : Addr} {fd : FuncData}
theorem pmk_exT (b : EB B newId initId tl) (T : OexT X.K tl newId C) (iC : PySem.W.findIn X.K (.ref C) "__init__" = some (some (.ref fI))) (tI : PySem.W.typeIn X.K (.ref fI) = some (.type "function"))
    (F1 : FnQ X.prog X.w X.K X.mg X.base (L2.CX X.prog X.w) 1 fI fd ["self", par] (spI C f)) (hgd : X.A.guards = some []) (hr : L2H.RoomH 2 X.A) (hb : Binds X.K fd ["self", par] []) (hg : Gl X x) (hm : X.mg x = some (.ref C)) (he : PE X e te)
    (hdb : (x == ("__debug__" : Str)) = false := by decide) (hst : starEach [e] X.env = (false, eval e X.env) :: starEach [] X.env := by rfl) (hpl : (backTo pos (starEach [] X.env)).any (·.1) = false := by rfl) :
    L2H.PMk5 X (.Call (.Name x p) [e] [] pos) (tMkT C f te) := by
  intro pins s σ H Q I h
  obtain ⟨nm, q, N, bs, bm, sn, sub, ab, col, dd, k0, k1, k2, k3, k5, hC, hbm⟩ := T.cls
  refine wpAny_Call_Name_kw (ld_glob I hg hm ?_ hdb)
  have ha : PA X [e] (tCons te tNil) := pa_cons he pa_nil hst
  let Q' : List V → Hp → Prop := fun vs H1 => match vs with
    | [v] => ∀ d, H1 d = none → Q (.ref C) (some d) (upd H1 d (.xd [(f, v)]))
    | _ => False
  refine PySem.W.callWith_K (h₀ := X.base) I.ok.mod.kin T.kC (thn (ha.run pos pins s σ H Q' I h) fun us s1 ⟨vs, H1, I1, r1, q1⟩ => ⟨I1.kIn, ?_⟩) hst hpl
  obtain ⟨v, rfl, q1⟩ : ∃ v, vs = [v] ∧ ∀ d, H1 d = none → Q (.ref C) (some d) (upd H1 d (.xd [(f, v)])) := by
    match vs, q1 with
    | [v], q1 => exact ⟨v, rfl, q1⟩
  show wpAny _ _ (call (.ref C) us) _ _ _
  obtain ⟨hp, g, dr, tk, os⟩ := s1
  have hsz : hp.objs.size ≤ hp.objs.size + 1 := Nat.le_succ _
  have hn : H1 (hp.objs.size + 1) = none := I1.hok.fresh hsz
  have kk : ∀ b o, hp.get? b = some o → ((hp.push (PySem.W.kdv_tup us)).push (PySem.HandSPX.excO C hp.objs.size)).get? b = some o := fun b o e => Heap.get?_push_of_some _ (Heap.get?_push_of_some _ e)
  have hget : ((hp.push (PySem.W.kdv_tup us)).push (PySem.HandSPX.excO C hp.objs.size)).get? (hp.objs.size + 1) = some (PySem.HandSPX.excO C hp.objs.size) := by heap_get
  have I2 : Inv X pins σ (upd H1 (hp.objs.size + 1) (exo (hp.objs.size + 1) C none)) ⟨(hp.push (PySem.W.kdv_tup us)).push (PySem.HandSPX.excO C hp.objs.size), g, dr, tk, os⟩ :=
    I1.laid (t' := tk) (a := hp.objs.size + 1) (o := exo (hp.objs.size + 1) C none) (h' := (hp.push (PySem.W.kdv_tup us)).push (PySem.HandSPX.excO C hp.objs.size)) kk hsz (exo_ok hget)
  have r2 : Vals (V.ref (hp.objs.size + 1) :: [v]) (Value.ref (hp.objs.size + 1) :: us) := .cons rfl r1
  have hl : (Value.ref (hp.objs.size + 1) :: us).length = (["self", par] : List Str).length := by
    have e := r2.length
    rw [← e]; rfl
  have hus : us.length ≤ sizeLine := by
    rw [← Paired.length r1, sizeLine_eq]
    simp
  have hbt := hb ⟨(hp.push (PySem.W.kdv_tup us)).push (PySem.HandSPX.excO C hp.objs.size), g, dr, tk, os⟩ (Value.ref (hp.objs.size + 1) :: us) I2.kIn (by rw [List.append_nil]; exact hl)
  rw [List.append_nil] at hbt
  refine wpAny_call (PySem.HandSPX.call_own b.F (fun Y => refsT_contains Y bm hbm) (I1.kIn _ _ hC) (PySem.W.looks_findIn I1.kIn iC) (fun self => PySem.W.bind_fn I1.kIn self tI) hus
    (codeAny_mono (F1.run _ X.stack _ _ ⟨Value.ref (hp.objs.size + 1) :: us, []⟩ (Value.ref (hp.objs.size + 1) :: us) _ (fun v0 H2 => v0 = .non ∧ ∃ d, H1 d = none ∧ d ≠ hp.objs.size + 1 ∧ H2 = upd (upd (upd H1 (hp.objs.size + 1) (exo (hp.objs.size + 1) C none)) d (exd d [(f, v)])) (hp.objs.size + 1) (exo (hp.objs.size + 1) C (some d))) (fun _ _ _ => False) (make_guards hgd C us []) (L2H.RoomH.make hr C us []) (I2.env0.make C us []) hbt r2 ?_) fun r s' hq' => ?_))
  · refine ⟨_, v, rfl, upd_same, fun dx n ne => ⟨rfl, dx, ?_, ne, rfl⟩⟩
    rw [upd_ne ne] at n
    exact n
  · cases r with
    | error er =>
      obtain ⟨_, _, _, _, _, _, _, _, _, _, _, _, z⟩ := hq'
      exact z.elim
    | ok fl =>
      cases fl with
      | ret u =>
        obtain ⟨v2, H2, os2, bare2, un2, hok2, rv, ev, d, dn, dne, eH⟩ := hq'
        subst ev
        subst eH
        obtain ⟨h2, g2, d2, t2, os'⟩ := s'
        have e1 : upd (del (upd (upd (upd H1 (hp.objs.size + 1) (exo (hp.objs.size + 1) C none)) d (exd d [(f, v)])) (hp.objs.size + 1) (exo (hp.objs.size + 1) C (some d))) (hp.objs.size + 1)) d (.xd [(f, v)]) = upd H1 d (.xd [(f, v)]) := by
          funext c
          by_cases z1 : c = d
          · subst z1; rw [upd_same, upd_same]
          · rw [upd_ne z1, upd_ne z1]
            by_cases z2 : c = hp.objs.size + 1
            · subst z2; rw [del_same, hn]
            · rw [del_ne z2, upd_ne z2, upd_ne z1, upd_ne z2]
        obtain ⟨t0, G, J, kG, ge, hoe, na⟩ := L2.mk_end0 (X := X) (d2 := d2) (t2 := t2) (a := hp.objs.size + 1) (C := C) (d := d) (fs := [(f, v)]) (H1 := H1) I1 hsz kk un2 hok2 os2 bare2 upd_same (by rw [upd_ne dne, upd_same]) dn
        rw [e1] at J na
        refine ⟨rv, ⟨_, _, _, ⟨G, g2, d2, t2, os'⟩, _, .ref C, some d, rfl, J, kG, ge, hoe, ⟨rfl, rfl, fun vs q => by cases q; rfl⟩, rfl, rfl, na, rfl, bare2, raises_own T.exC T.tyC, q1 d dn⟩, fun a oe vs ea hg hd => ?_⟩
        cases ea
        have hg : h2.get? _ = some oe := hg
        rw [hoe] at hg
        cases hg
        cases hd
        show (4 : Nat) < 6
        decide
      | next => exact False.elim hq'
      | brk => exact False.elim hq'
      | cont => exact False.elim hq'
end
/-! ### the mirror -/
def mRsF (c : Nat) (m : M D) : MS := fun ρ => match m ρ with
  | .ok d ρ' => .er ⟨c, [d]⟩ ρ'
  | .er x ρ' => .er x ρ'
  | .no => .no
/-- what is known of an own exception class with one field -/
structure ExF (X : Cx) (C : Addr) (f : Str) : Prop where
  ex : ∃ (B newId initId : String) (tl : List Value) (fI : Addr) (fd : FuncData) (par : Str), EB B newId initId tl ∧ OexT X.K tl newId C ∧ PySem.W.findIn X.K (.ref C) "__init__" = some (some (.ref fI)) ∧ PySem.W.typeIn X.K (.ref fI) = some (.type "function") ∧
    FnQ X.prog X.w X.K X.mg X.base (L2.CX X.prog X.w) 1 fI fd ["self", par] (spI C f) ∧ Binds X.K fd ["self", par] []
/-- what is made clean is made -/
theorem mkp_dn {X : Cx} {pins : List (Addr × Obj)} {σ : L2.St} {Q : XK} {u : Value} {s' : Shared} (h : L2N.MkP X pins σ Q u s') : L2.MkP X pins σ Q u s' := by
  obtain ⟨a, oe, vs, sI, H', cls, d, e, J, k, ne, ha, hz, r⟩ := h
  exact ⟨a, oe, vs, sI, H', cls, d, e, J, k, ne, ha, hz.zc, r⟩
theorem pmk_dn {X : Cx} {e : Expr} {t : L2.St → Hp → XK → Prop} (h : L2N.PMk X e t) : L2.PMk X e t := fun pins s σ H Q I q => thn (h pins s σ H Q I q) fun _ _ z => mkp_dn z
section
variable {cn : Bool} {X : Cx} {S : Sg} {Γ Γ' : List Kd} {pos apos p cpos : Pos} {x f : Str} {c j : Nat} {e : Expr} {m : M D}
theorem ts_raiseF (hge : GeLe Γ S.ge) (hns : (S.C.ct c).2 = [f]) {D : Ends} {σ : L2.St} {H : Hp} (q : Ts S Γ Γ' (mRsF c m) D σ H) : tMkT (S.C.ct c).1 f (Tr S Γ (rD S) m) σ H fun cls d H' => S.W cls d σ H' := by
  obtain ⟨F, ρ, rs, h⟩ := q
  refine ⟨F, ρ, rs, ?_⟩
  unfold mRsF at h
  cases em : m ρ with
  | no => rw [em] at h; exact h
  | er x ρ' => rw [em] at h; exact fun cl dx F' H' sm re rx => h cl dx σ F' H' sm re rx
  | ok d ρ' =>
    rw [em] at h
    intro v F1 H1 r1 x1 q1 dd hd
    have q1 : Rp S.C.K S.C.ct F1 d v := q1
    have r2 := r1.newF (o := .xd [(f, v)]) hd
    have fd0 : F1 dd = none := r1.sub.free hd
    obtain ⟨F2, sm, re⟩ := RE.le r2 hge
    have sm1 : Same F1 (upd F1 dd (.xd [(f, v)])) := same_updF fd0
    exact h _ (some dd) σ F2 _ (x1.f.trans (sm1.trans sm)) re ⟨rfl, .inr ⟨dd, [v], rfl, sm _ _ (by rw [upd_same, hns]; rfl), by rw [hns]; rfl, RpL.one (q1.mono (sm1.trans sm))⟩⟩
theorem s_raiseF (ef : ExF X (S.C.ct c).1 f) (hc : X.calm = true) (tk : Tkn cn X S.W) (hge : GeLe Γ S.ge) (gd : X.A.guards = some []) (room : Room 2 X.A) (gC : X.mg x = some (.ref (S.C.ct c).1)) (hns : (S.C.ct c).2 = [f]) (he : EvE X S Γ e m)
    (hg : Gl X x := by rfl) (hdb : (x == ("__debug__" : Str)) = false := by decide) (hst : starEach [e] X.env = (false, eval e X.env) :: starEach [] X.env := by rfl) (hpl : (backTo pos (starEach [] X.env)).any (·.1) = false := by rfl) :
    EvS X S Γ Γ' (.Raise (some (.Call (.Name x p) [e] [] pos)) none apos) (mRsF c m) := by
  obtain ⟨B, newId, initId, tl, fI, fd, par, b, T, iC, tI, F1, hb⟩ := ef.ex
  have mk := (pmk_exT (p := p) (pos := pos) b T iC tI F1 gd (L2H.roomH_of room) hb hg gC he hdb hst hpl).pmk
  refine ps_imp (t := fun _ σ H => tMkT (S.C.ct c).1 f (Tr S Γ (rD S) m) σ H fun cls d H' => S.W cls d σ H') ?_ fun D σ H q => ts_raiseF hge hns q
  cases cn with
  | true => exact L2N.ps_raise hc tk mk
  | false => exact L2.ps_raise hc tk (pmk_dn mk)
end
end G
/-! G28: try .. except T as n, T a class or a tuple of classes: the exception becomes frozen data. -/
namespace G
open PySem PySem.Spec PyProof.Rows L2
/-! ### the clause's type, looked at -/
def TstOk (X : Cx) (te : Expr) (f : Value → Option Bool) : Prop :=
  ∀ (a : Addr) (pn : List (Addr × Obj)) (s : Shared) (σ : L2.St) (H : Hp) (cl : Value) (b : Bool) (Q : Bool → Shared → Prop) (E1 E2 : Value → Shared → Prop), Inv (X.suite a pn) [] σ H s → PySem.W.Looks (model X.prog X.w) s.heap (typeOf (.ref a)) cl → f cl = some b →
    (∀ h', (∀ x o, s.heap.get? x = some o → h'.get? x = some o) → Q b { s with heap := h' }) →
    wpAny (model X.prog X.w) (X.A.mark (some (.ref a))) (eval te X.env) (fun c s₁ => wpAny (model X.prog X.w) (X.A.mark (some (.ref a))) (excMatches (.ref a) c) Q E1 s₁) E2 s
section
variable {X : Cx} {x1 x2 x3 : Str} {c1 c2 c3 : Value} {p1 p2 p3 pos : Pos}
theorem nm_eval {x : Str} {c : Value} {p : Pos} (hc : Names X x c) {a : Addr} {pn : List (Addr × Obj)} {s : Shared} {σ : L2.St} {H : Hp} (S3 : Inv (X.suite a pn) [] σ H s) {Q : Value → Shared → Prop} {E : Value → Shared → Prop} (q : Q c s) : wpAny (model X.prog X.w) (X.A.mark (some (.ref a))) (eval (.Name x p) X.env) Q E s := by
  obtain ⟨hg, hdbg, hm | ⟨hm, hv, hnn⟩⟩ := hc
  · exact ld_glob (X := X.suite a pn) S3 hg hm q hdbg
  · exact ld_blt (X := X.suite a pn) S3 hg hm hv q hnn hdbg
theorem tst_name (hc : Names X x1 c1) : TstOk X (.Name x1 p1) (fun cl => PySem.W.exmOne X.K cl c1) := by
  intro a pn s σ H cl b Q E1 E2 I LT hb q
  refine nm_eval hc I ?_
  exact (PySem.W.exm_one (M := model X.prog X.w) I.kIn LT hb).here (q s.heap fun _ _ e => e)
theorem tst_two {ctx : Nat} (h1 : Names X x1 c1) (h2 : Names X x2 c2) (s1 : starEach [.Name x1 p1, .Name x2 p2] X.env = (false, eval (.Name x1 p1) X.env) :: starEach [.Name x2 p2] X.env := by rfl) (s2 : starEach [.Name x2 p2] X.env = (false, eval (.Name x2 p2) X.env) :: starEach [] X.env := by rfl) :
    TstOk X (.Tuple [.Name x1 p1, .Name x2 p2] ctx pos) (fun cl => PySem.W.exmAny X.K cl [c1, c2]) := by
  intro a pn s σ H cl b Q E1 E2 I LT hb q
  refine wpAny_Tuple_spliced ?_
  rw [s1, s2]
  refine Calls.spliced_cons (nm_eval h1 I (Calls.spliced_cons (nm_eval h2 I (Calls.spliced_nil ⟨by rw [sizeLine_eq]; simp, ?_⟩))))
  have k : ∀ x o, s.heap.get? x = some o → (s.heap.push { cls := .type "tuple", data := .seq [c1, c2].toArray }).get? x = some o := fun x o e => Heap.get?_push_of_some _ e
  exact (PySem.W.exm_tup2 (M := model X.prog X.w) (I.kIn.keeps k) (LT.keeps k) (Heap.get?_push_size _ rfl) hb).here (q _ k)
end
/-! ### the rule -/
theorem exH_ok {P : Program} {w : World} {H : Hp} {h : Heap} {a C : Addr} {dx : Option Addr} {oe : Obj} {vs : Array Value} (e : h.get? a = some oe) (z : Zc (.ref C) dx oe) (d : oe.data = .fields vs) : ObjOk P w H h a (exH C dx a) :=
  ⟨⟨oe, vs, e, z, d⟩, ⟨oe, e⟩, fun _ _ ⟨o, v, q, r⟩ k => ⟨o, v, k o q, r⟩⟩
theorem fly_grow {B h h' : Heap} {l : List PySem.Env} {a : Addr} {Z : Obj → Prop} (f : HandSPX.FlyingZ B l a Z h) (k : ∀ x o, h.get? x = some o → h'.get? x = some o) : HandSPX.FlyingZ B l a Z h' := by
  obtain ⟨k1, k2, k3, oe, vs, T, oT, ts, he, hz, hd, h1, hn, hne, hT, hdT, h3⟩ := f
  exact ⟨fun b o e => k b o (k1 b o e), k2, Heap.FunFrames.of_keeps (fun b o e _ => ⟨o, k b o e, rfl⟩) k3, oe, vs, T, oT, ts, k _ _ he, hz, hd, h1, hn, hne, k _ _ hT, hdT, h3⟩
/-- the suite's state, the exception tracked -/
theorem inv_trk {X : Cx} {pins : List (Addr × Obj)} {σ : L2.St} {H : Hp} {sI s : Shared} {a C : Addr} {dx : Option Addr} {oe : Obj} {vs : Array Value} (I0 : Inv X pins σ H sI) (na0 : sI.heap.get? a = none) (I : Inv X pins σ H s) (na : H a = none) (nL : a ≠ X.env.locals)
    (e : s.heap.get? a = some oe) (z : Zc (.ref C) dx oe) (d : oe.data = .fields vs) : Inv (X.suite a (X.pn ++ pins)) [] σ (upd H a (exH C dx a)) s := by
  have nf : ∀ b o, X.s_0.heap.get? b = some o → b ∉ X.ex → b ≠ a := fun b o q hx y => by
    subst y
    obtain ⟨o', q'⟩ := I0.base.there b o q hx
    rw [na0] at q'; cases q'
  refine ⟨I.ok.suite _ _, I.os, I.bare, ⟨I.base.keep, I.base.slot, fun b o q n hx => ?_, I.base.there, fun b xs q => ?_, fun b o u q => ?_, fun b ps q => ?_⟩, I.loc, I.cell, ?_, fun x c q => ?_, fun p hp => ?_, fun b o q => ?_, I.len⟩
  · rw [upd_ne (nf b o q hx)]; exact I.base.free b o q n hx
  · have := I.base.tups b xs q
    rw [upd_ne (ne_of_none this na)]; exact this
  · have := I.base.frzs b o u q
    rw [upd_ne (ne_of_none this na)]; exact this
  · obtain ⟨m, this⟩ := I.base.tbls b ps q
    exact ⟨m, by rw [upd_ne (ne_of_none this na)]; exact this⟩
  · rw [upd_ne (fun y => nL y.symm)]; exact I.free
  · have hc := I.freeC x c q
    by_cases y : c = a
    · subst y
      obtain ⟨v, o, q1, q2⟩ := I.cell x c q
      have q1 : s.heap.get? c = some o := q1
      rw [e] at q1; cases q1
      rw [d] at q2; cases q2
    · rw [upd_ne y]; exact hc
  · rw [List.append_nil] at hp
    obtain ⟨q1, q2, q3, q4, q5⟩ := I.pin p hp
    have y : p.1 ≠ a := fun y => by
      have := (I0.pin p hp).1
      rw [y, na0] at this; cases this
    exact ⟨q1, by rw [upd_ne y]; exact q2, q3, q4, q5⟩
  · by_cases y : b = a
    · subst y
      rw [upd_same] at q; cases q
      exact exH_ok e z d
    · rw [upd_ne y] at q
      exact (I.hok b o q).stay (fun c v _ q => q) (fun c q => by rw [upd_ne (ne_of_none q na)]; exact q) fun c xs q => by rw [upd_ne (ne_of_none q na)]; exact q
def wT (f : Value → Option Bool) (i : Nat) (ts : TS) (Wout : WX) (D : Ends) : WX := fun cls d σ H =>
  ∃ b, f cls = some b ∧ (b = true → ∃ C, cls = .ref C ∧ ∀ a, H a = none → ts { nx := fun σ' H' => D.nx (σ'.set i none) H', rt := D.rt, bk := fun σ' H' => D.bk (σ'.set i none) H', ct := fun σ' H' => D.ct (σ'.set i none) H' } (σ.set i (some (.ref a))) (upd H a (exH C d a))) ∧
    (b = false → Wout cls d σ H)
theorem ps_tryT {X : Cx} {n : Str} {te : Expr} {f : Value → Option Bool} {i : Nat} {body suite : List Stmt} {b₀ : Stmt} {pos pos' : Pos} {tb : WX → TS} {ts : TS} {Wout : WX} (hs : X.stack = X.env :: X.outer) (hf : X.env.frame = some X.env.locals) (hN : X.N.Nodup) (hi : X.N[i]? = some n) (hln : X.env.kindOf n = some .local) (hc : TstOk X te f) (tk : Tkn false X Wout)
    (hb : ∀ (W : WX) (pn : List (Addr × Obj)) (xe : Value → Shared → Prop), Tkn false (X.tr pn xe) W → PassesOwn (model X.prog X.w) X.A X.env xe → PSs (X.tr pn xe) body (tb W))
    (hsu : ∀ (a : Addr) (pn : List (Addr × Obj)), PSs (X.suite a pn) (b₀ :: suite) ts) :
    PS X (.Try body [.ExceptHandler (some te) (some n) (b₀ :: suite) pos'] [] [] pos) (fun D σ H => tb (wT f i ts Wout D) D σ H) := by
  refine ⟨fun pins s σ H D I h => ?_⟩
  have ok := I.ok
  have hfr : X.A.frames = some (X.env :: X.outer) := by rw [ok.frames, hs]
  have hloc : Loc X.env.scope n := .inl hln
  refine wpAny_Try_except ?_
  refine wpAny_mono ((hb (wT f i ts Wout D) (X.pn ++ pins) (fun e s₁ => wpAny (model X.prog X.w) X.A (noteFrame e X.env) (fun _ s₂ => wpAny (model X.prog X.w) X.A (setFlight e none) (fun _ s₃ =>
    wpAny (model X.prog X.w) X.A (handleBy e X.env [.ExceptHandler (some te) (some n) (b₀ :: suite) pos']) (SP X pins D) X.xe s₃) X.xe s₂) X.xe s₁) (fun u s' xx => ?_) PassesOwn.looking).run [] s σ H D (I.toTry _) h) (fun f' s1 hsp => ?_) (fun e s1 he => he)
  · obtain ⟨a, B, sI, pins', σ', H', cls, d, rfl, J', nb, up, sky, na, os, ag, b, hb1, hyes, hno⟩ := xx
    have J : Inv X pins σ' H' sI := J'.ofTry ok
    have sky' : Sky B (X.env :: X.outer) a (Zc cls d) X.env.locals s'.heap := by rw [← hs]; exact sky
    show wpAny (model X.prog X.w) X.A (noteFrame (.ref a) X.env) _ _ _
    refine Sky.land Zc.steady hfr hf sky' fun h3 fl3 up3 => ?_
    have J3 : Inv X pins σ' H' { s' with heap := h3 } := J.landed nb fl3.1 (up.trans up3) os ag
    obtain ⟨oe3, vs3, he3, hz3, hd3⟩ := fl3.there
    have notFr : ∀ {h : Heap} {o : Obj} {vs : Array Value}, h.FunFrames B (X.env :: X.outer) → h.get? a = some o → o.data = .fields vs → a ∉ frs (X.env :: X.outer) := fun {h o vs} ff e dd hm => by
      obtain ⟨_, o', e', hnf⟩ := ff.mem hm
      rw [e] at e'; cases e'
      exact hnf _ dd
    have nfr := notFr fl3.2.2.1 he3 hd3
    have nL : a ≠ X.env.locals := fun z => nfr (List.mem_filterMap.mpr ⟨X.env, List.mem_cons_self, by rw [hf, z]⟩)
    have nF : a ∉ X.fs := fun hm => by
      obtain ⟨e, he, q⟩ := List.mem_filterMap.mp hm
      exact nfr (List.mem_filterMap.mpr ⟨e, List.mem_cons_of_mem _ he, q⟩)
    have na0 : sI.heap.get? a = none := by
      cases e : sI.heap.get? a with
      | none => rfl
      | some o =>
        have := nb a o e (by rw [hs]; exact nfr)
        rw [fl3.2.1] at this; cases this
    have S3 := J3.suite he3 hd3 na nL nF
    refine wpAny_handleBy_cons (codeAny_handlers_test ?_) (by intro q; cases q)
    have LT : PySem.W.Looks (model X.prog X.w) h3 (typeOf (.ref a)) cls := fun A Q E s k q => wpAny_typeOf_ref (k _ _ he3) (by rw [hz3.1]; exact q)
    refine hc a _ _ σ' H' cls b _ _ _ S3 LT hb1 fun h3' k3 => ?_
    have fl3' : HandSPX.FlyingZ B (X.env :: X.outer) a (Zc cls d) h3' := fly_grow fl3 k3
    have up3' : s'.heap.UpToSlots h3' := up3.trans fun b o e _ => ⟨o.slots, k3 b o e⟩
    cases b with
    | true =>
      obtain ⟨C, rfl, hy⟩ := hyes rfl
      refine codeAny_handlers_suite_as ?_
      refine HandSPX.lands_againZ fl3' fun h4 fl4 up4 => ?_
      have J4 : Inv X pins σ' H' { s' with heap := h4 } := J.landed nb fl4.1 ((up.trans up3').trans up4) os ag
      obtain ⟨oe4, vs4, he4, hz4, hd4⟩ := fl4.there
      have S4 : Inv (X.suite a (X.pn ++ pins)) [] σ' (upd H' a (exH C d a)) { s' with heap := h4 } := inv_trk J na0 J4 na nL he4 hz4 hd4
      refine store_ok (X := X.suite a (X.pn ++ pins)) (v := .ref a) S4 hN hi hloc rfl (fun s5 S5 => ?_) (.inr hln)
      refine wpAny_mono ((hsu a (X.pn ++ pins)).run [] s5 _ _ _ S5 (hy a na)) (fun f s6 hsp => ?_) (fun _ _ z => False.elim z)
      have un : ∀ {σ6 : L2.St} {H6 : Hp}, Inv (X.suite a (X.pn ++ pins)) [] σ6 H6 s6 → Inv X pins σ6 H6 s6 := fun {σ6 H6} I => ⟨ok, I.os, I.bare, I.base, I.loc, I.cell, I.free, I.freeC, fun p hp => I.pin p (List.mem_append_left _ hp), I.hok, I.len⟩
      have end_ : ∀ {σ6 : L2.St} {H6 : Hp} {Q : Shared → Prop}, Inv (X.suite a (X.pn ++ pins)) [] σ6 H6 s6 → (∀ s7, Inv X pins (σ6.set i none) H6 s7 → Q s7) →
          wpAny (model X.prog X.w) X.A (do bindName X.env n .none; unbindBehindTheSuite X.env n pos') (fun _ s7 => Q s7) X.xe s6 := fun {σ6 H6 Q} S6 hq => gone_ok (un S6) hN hi hln hq
      cases f with
      | next =>
        obtain ⟨σ6, H6, S6, q6⟩ := hsp
        exact end_ S6 fun s7 J7 => ⟨_, _, J7, q6⟩
      | brk =>
        obtain ⟨σ6, H6, S6, q6⟩ := hsp
        exact end_ S6 fun s7 J7 => ⟨_, _, J7, q6⟩
      | cont =>
        obtain ⟨σ6, H6, S6, q6⟩ := hsp
        exact end_ S6 fun s7 J7 => ⟨_, _, J7, q6⟩
      | ret u =>
        obtain ⟨v6, σ6, H6, S6, r6, q6⟩ := hsp
        exact end_ S6 fun s7 J7 => ⟨_, _, _, J7, r6, q6⟩
    | false =>
      show wpAny _ X.A (handleBy (.ref a) X.env []) _ _ _
      refine wpAny_handleBy_nil ?_
      obtain ⟨k1, k2, k3, oe, vs, T, oT, ts', he, hz, hd, h1, hr⟩ := id fl3'
      unfold PySem.passOn
      refine wpAny_bind (wpAny_field he hd h1 ?_)
      rw [if_neg (show ¬ ((Value.ref T == Value.none) = true) from by simp)]
      have fin : wpAny (model X.prog X.w) X.A (setFlight (.ref a) X.env.frame) (fun _ s4 => wpAny (model X.prog X.w) X.A (throw (.ref a) : Sem Flow) (SP X pins D) X.xe s4) X.xe { s' with heap := h3' } := by
        rw [hf]
        refine HandSPX.setFlight_upZ fl3' fun h4 hh4 up4 => wpAny_throw (tk _ _ ?_)
        exact ⟨a, B, sI, pins, σ', H', cls, d, rfl, J, nb, (up.trans up3').trans up4, .inr (.inr (by rw [hs]; exact hh4)), na, os, ag, hno rfl⟩
      first
        | exact wpAny_bind (wpAny_pure (wpAny_bind fin))
        | exact wpAny_bind fin
  · cases f' with
    | next =>
      obtain ⟨σ', H', J', q⟩ := hsp
      exact wpAny_execs_nil ⟨σ', H', J'.ofTry ok, q⟩
    | brk =>
      obtain ⟨σ', H', J', q⟩ := hsp
      exact ⟨σ', H', J'.ofTry ok, q⟩
    | cont =>
      obtain ⟨σ', H', J', q⟩ := hsp
      exact ⟨σ', H', J'.ofTry ok, q⟩
    | ret u =>
      obtain ⟨v, σ', H', J', r, q⟩ := hsp
      exact ⟨v, σ', H', J'.ofTry ok, r, q⟩
end G
/-! G29: try .. except T as n by its mirror; isinstance and fields of a caught exception. -/
namespace G
open PySem PySem.Spec PyProof.Rows L2
/-- a slot's name goes -/
theorem RS.gone {C : Fx} {Γ : List Kd} {F H : Hp} {ρ : Env} {σ : L2.St} (r : RS C Γ F ρ σ H) {i : Nat} (hk : ∃ k, Γ[i]? = some k ∧ k ≠ .io) : RS C Γ F (ρ.set i none) (σ.set i none) H := by
  obtain ⟨k, hk, hki⟩ := hk
  have hi : i < Γ.length := (List.getElem?_eq_some_iff.mp hk).1
  have hi1 : i < σ.length := by rw [← r.lg]; exact hi
  have hi2 : i < ρ.length := by rw [r.ln]; exact hi1
  have o1 : ∀ {j a}, Ow1 Γ (σ.set i none) j a → Ow1 Γ σ j a := fun {j a} ⟨h1, h2⟩ => by
    have z : i ≠ j := fun z => by subst z; rw [List.getElem?_set_self hi1] at h2; cases h2
    rw [List.getElem?_set_ne z] at h2
    exact ⟨h1, h2⟩
  refine ⟨r.sub, r.ext, by simpa using r.ln, by simpa using r.lg, fun j hj => ?_, fun j d h1 h2 => ?_, fun j d k' h1 h2 h3 => ?_, fun j l a a1 a2 => r.dj j l a (o1 a1) (o1 a2), fun p hp => ?_⟩
  · by_cases z : i = j
    · subst z; exact List.getElem?_set_self hi1
    · rw [List.getElem?_set_ne z] at hj ⊢; exact r.no j hj
  · by_cases z : i = j
    · subst z; rw [List.getElem?_set_self hi2] at h2; cases h2
    · rw [List.getElem?_set_ne z] at h2 ⊢; exact r.fz j d h1 h2
  · by_cases z : i = j
    · subst z; rw [List.getElem?_set_self hi2] at h3; cases h3
    · rw [List.getElem?_set_ne z] at h3 ⊢; exact r.ow j d k' h1 h2 h3
  · obtain ⟨q1, q2, d', q3⟩ := r.hio p hp
    have z : i ≠ p.1 := fun z => by rw [← z, hk] at q1; cases q1; exact hki rfl
    rw [List.getElem?_set_ne z, List.getElem?_set_ne z]
    exact ⟨q1, q2, d', q3⟩
def asEnd (i : Nat) : SR → SR
  | .nx ρ => .nx (ρ.set i none)
  | .rt d ρ => .rt d ρ
  | _ => .no
def mTryAs (caught : Nat → Bool) (i : Nat) (b h : MS) : MS := fun ρ => match b ρ with
  | .er x ρ' => if caught x.c = true then asEnd i (h (ρ'.set i (some (.exc x.c x.fs)))) else .er x ρ'
  | r => r
section
variable {X : Cx} {S : Sg} {Γ Γ' : List Kd} {pos : Pos}
theorem s_tryAs {n : Str} {te : Expr} {f : Value → Option Bool} {i : Nat} {body suite : List Stmt} {b₀ : Stmt} {pos' : Pos} {Γe : List Kd} {caught : Nat → Bool} {mb mh : MS} (hs : X.stack = X.env :: X.outer) (hf : X.env.frame = some X.env.locals) (nd : X.N.Nodup) (hi : X.N[i]? = some n) (hln : X.env.kindOf n = some .local)
    (hc : TstOk X te f) (tk : Tkn false X S.W) (hge : GeLe Γe S.ge) (hex : ∀ c, f (.ref (S.C.ct c).1) = some (caught c)) (hk : ∃ k, Γe[i]? = some k ∧ k ≠ .io) (hk2 : ∃ k, Γ'[i]? = some k ∧ k ≠ .io)
    (hb : ∀ (W : WX) (pn : List (Addr × Obj)) (xe : Value → Shared → Prop), Tkn false (X.tr pn xe) W → PassesOwn (model X.prog X.w) X.A X.env xe → EvSs (X.tr pn xe) (S.tr W Γe) Γ Γ' body mb)
    (hsu : ∀ (a : Addr) (pn : List (Addr × Obj)), EvSs (X.suite a pn) S.su (Γe.set i .fz) Γ' (b₀ :: suite) mh) :
    EvS X S Γ Γ' (.Try body [.ExceptHandler (some te) (some n) (b₀ :: suite) pos'] [] [] pos) (mTryAs caught i mb mh) :=
  ps_imp (ps_tryT hs hf nd hi hln hc tk (tb := fun W => Ts (S.tr W Γe) Γ Γ' mb) (ts := Ts S.su (Γe.set i .fz) Γ' mh) (fun W pn xe t pw => hb W pn xe t pw) hsu) fun D σ H ⟨F, ρ, rs, h⟩ => by
    refine ⟨F, ρ, rs, ?_⟩
    unfold mTryAs at h
    cases e : mb ρ with
    | nx ρ' => rw [e] at h; exact h
    | rt d ρ' => rw [e] at h; exact h
    | bk ρ' => rw [e] at h; exact h
    | ct ρ' => rw [e] at h; exact h
    | no => rw [e] at h; exact h
    | er z ρ' =>
      rw [e] at h
      simp only at h
      intro cl dx σ' F' H' sm re rx
      obtain ⟨rcl, rdx⟩ := id rx
      refine ⟨caught z.c, by rw [rcl]; exact hex z.c, fun hz => ⟨_, rcl, fun a ha => ?_⟩, fun hz => ?_⟩
      · rw [if_pos hz] at h
        have re : RS S.C Γe F' ρ' σ' H' := re
        have r1 := re.newF (o := exH (S.C.ct z.c).1 dx a) ha
        have fa : F' a = none := re.sub.free ha
        have sm1 : Same F' (upd F' a (exH (S.C.ct z.c).1 dx a)) := same_updF fa
        have rp : Rp S.C.K S.C.ct (upd F' a (exH (S.C.ct z.c).1 dx a)) (.exc z.c z.fs) (.ref a) := rp_exc.mpr ⟨a, dx, rfl, upd_same, rdx.elim .inl fun ⟨b, vs, e1, e2, e3, e4⟩ => .inr ⟨b, vs, e1, sm1 _ _ e2, e3, e4.mono sm1⟩⟩
        refine ⟨_, _, r1.setF hk rp, ?_⟩
        have h' := h.late (sm.trans sm1)
        cases em : mh (ρ'.set i (some (.exc z.c z.fs))) with
        | er y ρ2 => rw [em] at h'; exact (show False from h').elim
        | nx ρ2 =>
          rw [em] at h'
          exact fun σ2 F2 H2 sm2 rs2 => h' _ F2 H2 sm2 (rs2.gone hk2)
        | rt d ρ2 => rw [em] at h'; exact h'
        | bk ρ2 => rw [em] at h'; exact (show False from h').elim
        | ct ρ2 => rw [em] at h'; exact (show False from h').elim
        | no => rw [em] at h'; exact (show False from h').elim
      · rw [if_neg (by rw [hz]; exact Bool.false_ne_true)] at h
        obtain ⟨F2, sm2, re2⟩ := RE.le re hge
        exact h cl dx σ' F2 H' (sm.trans sm2) re2 (rx.mono sm2)
end
end G
namespace PySem.W
open PySem PySem.Spec PySem.Calls PyProof.Rows
section
variable {prog : Program} {w : World} {A : Around} {E : Value → Shared → Prop} {s : Shared} {K : Frag} {x D : Addr} {ox : Obj} {od : Option Obj}
end
end PySem.W
namespace G
open PySem PySem.Spec PyProof.Rows L2
section
variable {X : Cx} {S : Sg} {Γ : List Kd} {pos : Pos}
/-- a caught exception that is tracked, as an instance -/
theorem exc_inst {pins : List (Addr × Obj)} {σ : L2.St} {H : Hp} {s : Shared} {a C : Addr} {dx : Option Addr} (I : Inv X pins σ H s) (ha : H a = some (exH C dx a)) (hd : ∀ d, dx = some d → ∃ fs, H d = some (.xd fs)) : ∃ (ox : Obj) (od : Option Obj), PySem.W.InstAt s.heap a ox C od ∧
    ∀ d fs, dx = some d → H d = some (.xd fs) → ∃ o, od = some o ∧ ∀ n v, fs.lookup n = some v → ∃ u, PySem.W.lookIn n o = some (some u) ∧ RelV v u := by
  have x : ObjOk X.prog X.w H s.heap a (.ext fun h => ∃ (oe : Obj) (vs : Array Value), h.get? a = some oe ∧ Zc (.ref C) dx oe ∧ oe.data = .fields vs) := I.hok a _ ha
  obtain ⟨⟨oe, vs, h1, hz, h3⟩, _⟩ := x
  cases dx with
  | none => exact ⟨oe, none, ⟨h1, hz.1, by unfold PySem.W.notCls; rw [h3] <;> rfl, by rw [hz.2]; exact trivial⟩, fun d fs e => by cases e⟩
  | some d =>
    obtain ⟨fs, ed⟩ := hd d rfl
    have hx : ObjOk X.prog X.w H s.heap d (.xd fs) := I.hok d _ ed
    obtain ⟨mA, hns, hr⟩ := hx
    obtain ⟨od, ho, hl⟩ := lookIn_ns hns
    refine ⟨oe, some od, ⟨h1, hz.1, by unfold PySem.W.notCls; rw [h3] <;> rfl, by rw [hz.2]; exact ho⟩, fun d' fs' e e' => ?_⟩
    cases e
    rw [ed] at e'; cases e'
    refine ⟨od, rfl, fun n v l => ?_⟩
    obtain ⟨u, hu, ru⟩ := RelO.some_of (v := v) (o := mA n) (by rw [← l]; exact hr n)
    exact ⟨u, by rw [hl, hu], ru⟩
/-- where an exception lies -/
def ExAt (H : Hp) (C : Addr) (a : Addr) : Prop := ∃ dx, H a = some (exH C dx a) ∧ ∀ d, dx = some d → ∃ fs, H d = some (.xd fs)
def rIsX (K : PySem.W.Frag) : List V → Hp → VK → Prop := fun xs H Q => ∃ (a D : Addr) (c : V) (cv : Value) (b : Bool), xs = [.ref a, c] ∧ ExcC K D ∧ ExAt H D a ∧ ClsV c cv ∧ PySem.W.kitOne K (.ref D) cv = some b ∧ Q (.bl b) H
def rIsXT (K : PySem.W.Frag) : List V → Hp → VK → Prop := fun xs H Q => ∃ (a D tp : Addr) (cs : List V) (cvs : List Value) (b : Bool), xs = [.ref a, .ref tp] ∧ H tp = some (.tup cs) ∧ ExcC K D ∧ ExAt H D a ∧ Paired ClsV cs cvs ∧ PySem.W.kitAny K (.ref D) cvs = some b ∧ Q (.bl b) H
/-- isinstance(e, C): the mirror -/
def dIsX (f : Nat → Option Bool) : D → Option D
  | .exc c _ => (f c).map .bl
  | _ => none
/-! ### e.f -/
def tXfT (K : PySem.W.Frag) (n : Str) (te : TE) : TE := fun σ H Q => te σ H fun x H1 => ∃ (a C d : Addr) (fs : List (Str × V)) (v : V), x = .ref a ∧ XfC K C ∧ PySem.W.findIn K (.ref C) n = some none ∧ H1 a = some (exH C (some d) a) ∧ H1 d = some (.xd fs) ∧ fs.lookup n = some v ∧ Q v H1
theorem pe_xfT {e : Expr} {te : TE} {n : Str} (he : PE X e te) (hb : attributeBase e n X.env (eval e X.env) = eval e X.env := by rfl) : PE X (.Attribute e n pos) (tXfT X.K n te) := by
  refine ⟨fun pins s σ H Q I h => ?_⟩
  refine attr_of hb (thn (he.run pins s σ H _ I h) fun u s1 hh => ?_)
  obtain ⟨x, H1, I1, rx, a, C, d, fs, v, ex, T, hno, ha, ed, l, q⟩ := hh
  subst ex
  obtain rfl : u = Value.ref a := rx
  obtain ⟨ox, od, J, hl⟩ := exc_inst I1 ha fun d' e => by cases e; exact ⟨_, ed⟩
  obtain ⟨o, rfl, hl2⟩ := hl d fs rfl ed
  obtain ⟨u, hu, ru⟩ := hl2 n v l
  exact HandSPX.exc_get I1.kIn J T.ga T.gg T.exC (PySem.W.findObj_own T.hdC hno rfl hu) (handed_of ru) ⟨v, H1, I1.tok _, ru, q⟩
def dXf (g : Nat → Bool) : D → Option D
  | .exc c fs => if g c = true then fs[0]? else none
  | _ => none
theorem e_xf {e : Expr} {m : M D} {n : Str} {g : Nat → Bool} (h : EvE X S Γ e m) (hg : ∀ c, g c = true → XfC X.K (S.C.ct c).1 ∧ PySem.W.findIn X.K (.ref (S.C.ct c).1) n = some none ∧ (S.C.ct c).2 = [n]) (hb : attributeBase e n X.env (eval e X.env) = eval e X.env := by rfl) :
    EvE X S Γ (.Attribute e n pos) (m1 (dXf g) m) := pe_imp (pe_xfT h hb) fun σ H Q q => by
  refine (Tr.bind (R1 := rD S) rD_late q).mono fun v H1 ⟨d, F1, r, q⟩ => ?_
  obtain ⟨z, e1, hs, k⟩ := q.opt0
  cases d <;> simp only [dXf] at e1 <;> try (cases e1; done)
  rename_i c fs
  split at e1
  · rename_i hc
    obtain ⟨q1, q2, q3⟩ := hg c hc
    obtain ⟨a, dx, rfl, h1, h2⟩ := rp_exc.mp r
    rcases h2 with ⟨_, _, e⟩ | ⟨b, vs, rfl, h3, h4, h5⟩
    · subst e; simp at e1
    · obtain ⟨u, z1, z2⟩ := h5.get e1
      exact ⟨a, _, b, _, u, rfl, q1, q2, hs _ _ h1, hs _ _ h3, by
        rw [q3] at h4 ⊢
        match vs, h4, z1 with
        | [u0], _, z1 => simp at z1; subst z1; simp [List.lookup], k _ z2⟩
  · cases e1
end
end G
/-! G30: count and index of truths in a list of truths; the facts of own exception classes by looking. -/
namespace G
open PySem PySem.Spec PyProof.Rows L2
/-! ### xs.count(truth), xs.index(truth) -/
def rCntF (K : PySem.W.Frag) : V → List V → Hp → VK → Prop := fun x xs H Q => ∃ (p : Addr) (ys : List V) (y : V), x = .ref p ∧ xs = [y] ∧ SqL K H p ys ∧ flatV y = true ∧ ys.all flatV = true ∧ Q (.int (ys.countP (fun z => eqV z y) : Nat)) H
def dBix : D → List D → Option D
  | .lst xs, [.bl z] => (dBls xs).bind fun ys => if z ∈ ys then some (.int (ys.idxOf z : Nat)) else none
  | _, _ => none
def dBct : D → List D → Option D
  | .lst xs, [.bl z] => (dBls xs).bind fun ys => some (.int (ys.count z : Nat))
  | _, _ => none
def mBmt (f : D → List D → Option D) (o : M D) (a : M (List D)) : M D := o.bind fun d => if isLs d = true then a.bind fun ds => M.opt (f d ds) else M.opt none
section
variable {X : Cx} {S : Sg} {Γ : List Kd} {pos : Pos}
end
/-! ### facts by looking -/
def oexB (K : Frag) (tl : List Value) (newId : String) (C : Addr) : Bool :=
  (match K.lookup C with
  | some ⟨.type "type", _, .cls cd, sl⟩ => (match cd.mro, sl.toList with
    | .ref C' :: bm, [_, _, _, _, some (.builtin n), _] => C' == C && n == newId && !cd.hasDel && cd.hasDict && refsT tl bm
    | _, _ => false)
  | _ => false) && decide (PySem.W.findIn K (.ref C) "__setattr__" = some (some (.builtin "object.__setattr__"))) && decide (PySem.W.subIn K (.ref C) (.type "BaseException") = some true) && decide (PySem.W.typeIn K (.ref C) = some (.type "type")) && PySem.W.keepIn K (.ref C)
theorem oexT_of {K : Frag} {tl : List Value} {newId : String} {C : Addr} (h : oexB K tl newId C = true) : OexT K tl newId C := by
  unfold oexB at h
  simp only [Bool.and_eq_true, decide_eq_true_eq] at h
  obtain ⟨⟨⟨⟨q, h2⟩, h3⟩, h4⟩, h5⟩ := h
  refine ⟨?_, h2, h3, h4, h5⟩
  split at q
  · rename_i dd cd sl ho
    split at q
    · rename_i C' bm k0 k1 k2 k3 n k5 hm hs
      simp only [Bool.and_eq_true, beq_iff_eq, Bool.not_eq_true'] at q
      obtain ⟨⟨⟨⟨rfl, rfl⟩, hdel⟩, hdi⟩, hr⟩ := q
      obtain ⟨nm, bs, mro, ns, qn, hd, sn, sub, ab, col, del⟩ := cd
      dsimp only at hm hdel hdi
      subst hm hdel hdi
      have hsl : sl = #[k0, k1, k2, k3, some (.builtin n), k5] := by
        obtain ⟨l⟩ := sl
        simp only at hs
        rw [hs]
      subst hsl
      exact ⟨nm, qn, ns, bs, bm, sn, sub, ab, col, dd, k0, k1, k2, k3, k5, ho, hr⟩
    · cases q
  · cases q
def foundB (K : Frag) (Bc : Addr) (initId : String) : Bool := match PySem.W.findCls K (.ref Bc) (.type "type") "__init__" with
  | some (.val v) => v == .builtin initId
  | _ => false
def baseIB (K : Frag) (Bc : Addr) (initId : String) : Bool := decide (PySem.W.specialIn K (.ref Bc) "__getattribute__" = some (some (.builtin "type.__getattribute__"))) && PySem.W.readsIn K Bc (.type "type") && foundB K Bc initId
theorem baseI_of {K : Frag} {Bc : Addr} {initId : String} (h : baseIB K Bc initId = true) : BaseI K Bc initId := by
  unfold baseIB at h
  simp only [Bool.and_eq_true, decide_eq_true_eq] at h
  obtain ⟨⟨h1, h2⟩, h3⟩ := h
  refine ⟨h1, h2, ?_⟩
  unfold foundB at h3
  split at h3
  · rename_i v e
    rw [e, beq_iff_eq.mp h3]
  · cases h3
def exfB (K : Frag) (C fI : Addr) (f : Str) : Bool := decide (PySem.W.findIn K (.ref C) f = some none) && decide (PySem.W.findIn K (.ref C) "__init__" = some (some (.ref fI))) && decide (PySem.W.typeIn K (.ref fI) = some (.type "function"))
/-- an own exception class with a field, for any body -/
structure ExFK (P : Program) (w : World) (K : Frag) (mg : Str → Option Value) (C : Addr) (f : Str) : Prop where
  ex : ∃ (B newId initId : String) (tl : List Value) (fI : Addr) (fd : FuncData) (par : Str), EB B newId initId tl ∧ OexT K tl newId C ∧ PySem.W.findIn K (.ref C) "__init__" = some (some (.ref fI)) ∧ PySem.W.typeIn K (.ref fI) = some (.type "function") ∧
    (∀ base, FnQ P w K mg base (L2.CX P w) 1 fI fd ["self", par] (spI C f)) ∧ Binds K fd ["self", par] []
theorem ExFK.of {X : Cx} {C : Addr} {f : Str} (h : ExFK X.prog X.w X.K X.mg C f) : ExF X C f := by
  obtain ⟨B, newId, initId, tl, fI, fd, par, b, T, iC, tI, F1, hb⟩ := h.ex
  exact ⟨B, newId, initId, tl, fI, fd, par, b, T, iC, tI, F1 _, hb⟩
def excCB (K : Frag) (D : Addr) : Bool := decide (PySem.W.findIn K (.ref D) "__getattribute__" = some (some (.builtin "BaseException.__getattribute__"))) && decide (PySem.W.findIn K (.ref D) "__getattr__" = some none) && decide (PySem.W.subIn K (.ref D) (.type "BaseException") = some true) && PySem.W.hasDictIn K D &&
  decide (PySem.W.findIn K (.ref D) "__class__" = some (some (.builtin "object.__class__"))) && decide (PySem.W.specialIn K (.builtin "object.__class__") "__get__" = some (some (.builtin "getset_descriptor.__get__"))) && decide (PySem.W.takesIn K (.builtin "object.__class__") = some true) && decide (PySem.W.mroIn K D (.type "object") = some true)
theorem excC_of {K : Frag} {D : Addr} (h : excCB K D = true) : ExcC K D := by
  unfold excCB at h
  simp only [Bool.and_eq_true, decide_eq_true_eq] at h
  obtain ⟨⟨⟨⟨⟨⟨⟨h1, h2⟩, h3⟩, h4⟩, h5⟩, h6⟩, h7⟩, h8⟩ := h
  exact ⟨h1, h2, h3, h4, h5, h6, h7, h8⟩
theorem xfC_of {K : Frag} {D : Addr} (h : excCB K D = true) : XfC K D := by
  obtain ⟨h1, h2, h3, h4, h5, h6, h7, h8⟩ := excC_of h
  exact ⟨h1, h2, h3, h4⟩
end G
/-! G31: facts by looking, further. -/
namespace G
open PySem PySem.Spec PyProof.Rows L2 L2H
theorem exa2 {K : Frag} {cls c1 c2 : Value} {b1 b2 : Bool} (h1 : PySem.W.exmOne K cls c1 = some b1) (h2 : PySem.W.exmOne K cls c2 = some b2) : PySem.W.exmAny K cls [c1, c2] = some (b1 || b2) := by
  simp only [PySem.W.exmAny, h1, h2, Bool.or_false]
end G
namespace G
open PySem PySem.Spec PyProof.Rows L2
def kit1B (K : Frag) (cv : Value) (l : List (Addr × Bool)) : Bool := l.all fun p => decide (PySem.W.kitOne K (.ref p.1) cv = some p.2)
def kit2B (K : Frag) (cvs : List Value) (l : List (Addr × Bool)) : Bool := l.all fun p => decide (PySem.W.kitAny K (.ref p.1) cvs = some p.2)
theorem exf_1 {K : Frag} {C fI : Addr} {f : Str} (h : exfB K C fI f = true) : PySem.W.findIn K (.ref C) f = some none ∧ PySem.W.findIn K (.ref C) "__init__" = some (some (.ref fI)) ∧ PySem.W.typeIn K (.ref fI) = some (.type "function") := by
  unfold exfB at h
  simp only [Bool.and_eq_true, decide_eq_true_eq] at h
  exact ⟨h.1.1, h.1.2, h.2⟩
end G
namespace G
open PySem PySem.Spec PyProof.Rows L2
/-- these are classes -/
def clsOksB (K : Frag) (l : List Addr) : Bool := l.all fun C => match K.lookup C with
  | some ⟨t, _, .cls _, _⟩ => t == .type "type"
  | _ => false
/-- what stands among the bases of the class at D -/
def mroRowB (K : Frag) (D : Addr) (l : List (Value × Bool)) : Bool := match PySem.W.clsIn K D with
  | some cd => !cd.mro.isEmpty && l.all fun p => cd.mro.contains p.1 == p.2
  | none => false
end G
/-! G32: try .. except T: a suite that may raise, T a class or a tuple of classes. -/
namespace G
open PySem PySem.Spec PyProof.Rows L2 L2H HotX
def wH (f : Value → Option Bool) (ts : TS) (Wout : WX) (D : Ends) : WX := fun cls d σ H => ∃ b, f cls = some b ∧ (b = true → ts D σ H) ∧ (b = false → Wout cls d σ H)
theorem ps_tryH {X : Cx} {te : Expr} {f : Value → Option Bool} {body suite : List Stmt} {b₀ : Stmt} {pos pos' : Pos} {tb : WX → TS} {ts : TS} {Wout : WX} (hs : X.stack = X.env :: X.outer) (hf : X.env.frame = some X.env.locals) (hc : TstOk X te f) (hpa : ∀ hd : Option Value, PassesOwnAt (model X.prog X.w) (X.A.mark hd) X.A X.env X.xe) (tk : L2.Takes X Wout)
    (hb : ∀ (W : WX) (pn : List (Addr × Obj)) (xe : Value → Shared → Prop), L2N.Takes (X.tr pn xe) W → PassesOwn (model X.prog X.w) X.A X.env xe → PSs (X.tr pn xe) body (tb W))
    (hsu : ∀ (a : Addr) (oe : Obj) (pn : List (Addr × Obj)), L2.Takes (suiteX X a ((a, oe) :: pn)) Wout → HotC (suiteX X a ((a, oe) :: pn)) → PSs (suiteX X a ((a, oe) :: pn)) (b₀ :: suite) ts) :
    PS X (.Try body [.ExceptHandler (some te) none (b₀ :: suite) pos'] [] [] pos) (fun D σ H => tb (wH f ts Wout D) D σ H) := by
  refine ⟨fun pins s σ H D I h => ?_⟩
  have ok := I.ok
  have hfr : X.A.frames = some (X.env :: X.outer) := by rw [ok.frames, hs]
  refine wpAny_Try_except ?_
  refine wpAny_mono ((hb (wH f ts Wout D) (X.pn ++ pins) (fun e s₁ => wpAny (model X.prog X.w) X.A (noteFrame e X.env) (fun _ s₂ => wpAny (model X.prog X.w) X.A (setFlight e none) (fun _ s₃ =>
    wpAny (model X.prog X.w) X.A (handleBy e X.env [.ExceptHandler (some te) none (b₀ :: suite) pos']) (SP X pins D) X.xe s₃) X.xe s₂) X.xe s₁) (fun u s' xx => ?_) PassesOwn.looking).run [] s σ H D (I.toTry _) h) (fun f' s1 hsp => ?_) (fun e s1 he => he)
  · obtain ⟨a, B, sI, pins', σ', H', cls, d, rfl, J', nb, up, sky, na, os, ag, b, hb1, hyes, hno⟩ := xx
    have J : Inv X pins σ' H' sI := J'.ofTry ok
    have sky' : Sky B (X.env :: X.outer) a (L2N.Zn cls d) X.env.locals s'.heap := by rw [← hs]; exact sky
    show wpAny (model X.prog X.w) X.A (noteFrame (.ref a) X.env) _ _ _
    refine L2N.Sky.land L2N.Zn.steady hfr hf sky' fun h3 fl3 up3 => ?_
    have J3 : Inv X pins σ' H' { s' with heap := h3 } := J.landed nb fl3.1 (up.trans up3) os ag
    obtain ⟨oe3, vs3, he3, hz3, hd3⟩ := fl3.there
    have notFr : ∀ {h : Heap} {o : Obj} {vs : Array Value}, h.FunFrames B (X.env :: X.outer) → h.get? a = some o → o.data = .fields vs → a ∉ frs (X.env :: X.outer) := fun {h o vs} ff e dd hm => by
      obtain ⟨_, o', e', hnf⟩ := ff.mem hm
      rw [e] at e'; cases e'
      exact hnf _ dd
    have nfr := notFr fl3.2.2.1 he3 hd3
    have nL : a ≠ X.env.locals := fun z => nfr (List.mem_filterMap.mpr ⟨X.env, List.mem_cons_self, by rw [hf, z]⟩)
    have nF : a ∉ X.fs := fun hm => by
      obtain ⟨e, he, q⟩ := List.mem_filterMap.mp hm
      exact nfr (List.mem_filterMap.mpr ⟨e, List.mem_cons_of_mem _ he, q⟩)
    have S3 := J3.suite he3 hd3 na nL nF
    refine wpAny_handleBy_cons (codeAny_handlers_test ?_) (by intro q; cases q)
    have LT : PySem.W.Looks (model X.prog X.w) h3 (typeOf (.ref a)) cls := fun A Q E s k q => wpAny_typeOf_ref (k _ _ he3) (by rw [hz3.1]; exact q)
    refine hc a _ _ σ' H' cls b _ _ _ S3 LT hb1 fun h3' k3 => ?_
    have fl3' : HandSPX.FlyingZ B (X.env :: X.outer) a (L2N.Zn cls d) h3' := fly_grow fl3 k3
    have up3' : s'.heap.UpToSlots h3' := up3.trans fun b o e _ => ⟨o.slots, k3 b o e⟩
    cases b with
    | true =>
      refine codeAny_handlers_suite ?_
      refine HandSPX.lands_againZ fl3' fun h4 fl4 up4 => ?_
      have J4 : Inv X pins σ' H' { s' with heap := h4 } := J.landed nb fl4.1 ((up.trans up3').trans up4) os ag
      obtain ⟨oe4, vs4, he4, hz4, hd4⟩ := fl4.there
      have S4 := J4.suite he4 hd4 na nL nF
      have tkS : L2.Takes (suiteX X a ((a, oe4) :: (X.pn ++ pins))) Wout := fun u2 s2 x2 => by
        obtain ⟨a2, B2, sI2, pn2, σ2, H2, cls2, d2, e2, I2, nb2, up2, sky2, na2, os2, ag2, w2⟩ := x2
        exact tk u2 s2 ⟨a2, B2, sI2, pins, σ2, H2, cls2, d2, e2, unsuiteX I2 ok, nb2, up2, sky2, na2, os2, ag2, w2⟩
      have hot : HotC (suiteX X a ((a, oe4) :: (X.pn ++ pins))) := ⟨(a, oe4), ⟨rfl, vs4, hd4, hz4.2.2 vs4 hd4⟩, List.mem_cons_self⟩
      refine wpAny_mono ((hsu a oe4 (X.pn ++ pins) tkS hot).run [] _ _ H' _ (suiteX_of S4) (hyes rfl)) (fun f s6 hsp => ?_) (fun e6 s6 z => hpa (some (.ref a)) e6 s6 z)
      cases f with
      | next =>
        obtain ⟨σ6, H6, S6, q6⟩ := hsp
        exact ⟨_, _, unsuiteX S6 ok, q6⟩
      | brk =>
        obtain ⟨σ6, H6, S6, q6⟩ := hsp
        exact ⟨_, _, unsuiteX S6 ok, q6⟩
      | cont =>
        obtain ⟨σ6, H6, S6, q6⟩ := hsp
        exact ⟨_, _, unsuiteX S6 ok, q6⟩
      | ret u =>
        obtain ⟨v6, σ6, H6, S6, r6, q6⟩ := hsp
        exact ⟨_, _, _, unsuiteX S6 ok, r6, q6⟩
    | false =>
      show wpAny _ X.A (handleBy (.ref a) X.env []) _ _ _
      have fl5 : HandSPX.FlyingZ B (X.env :: X.outer) a (Zc cls d) h3' := flyingZ_imp (fun o z => z.zc) fl3'
      refine wpAny_handleBy_nil ?_
      obtain ⟨k1, k2, k3, oe, vs, T, oT, ts', he, hz, hd, h1, hr⟩ := id fl5
      unfold PySem.passOn
      refine wpAny_bind (wpAny_field he hd h1 ?_)
      rw [if_neg (show ¬ ((Value.ref T == Value.none) = true) from by simp)]
      have fin : wpAny (model X.prog X.w) X.A (setFlight (.ref a) X.env.frame) (fun _ s4 => wpAny (model X.prog X.w) X.A (throw (.ref a) : Sem Flow) (SP X pins D) X.xe s4) X.xe { s' with heap := h3' } := by
        rw [hf]
        refine HandSPX.setFlight_upZ fl5 fun h4 hh4 up4 => wpAny_throw (tk _ _ ?_)
        exact ⟨a, B, sI, pins, σ', H', cls, d, rfl, J, nb, (up.trans up3').trans up4, .inr (.inr (by rw [hs]; exact hh4)), na, os, ag, hno rfl⟩
      first
        | exact wpAny_bind (wpAny_pure (wpAny_bind fin))
        | exact wpAny_bind fin
  · cases f' with
    | next =>
      obtain ⟨σ', H', J', q⟩ := hsp
      exact wpAny_execs_nil ⟨σ', H', J'.ofTry ok, q⟩
    | brk =>
      obtain ⟨σ', H', J', q⟩ := hsp
      exact ⟨σ', H', J'.ofTry ok, q⟩
    | cont =>
      obtain ⟨σ', H', J', q⟩ := hsp
      exact ⟨σ', H', J'.ofTry ok, q⟩
    | ret u =>
      obtain ⟨v, σ', H', J', r, q⟩ := hsp
      exact ⟨v, σ', H', J'.ofTry ok, r, q⟩
/-! ### by the mirror -/
def mTryH (caught : Nat → Bool) (b h : MS) : MS := fun ρ => match b ρ with
  | .er x ρ' => if caught x.c = true then h ρ' else .er x ρ'
  | r => r
section
variable {X : Cx} {S : Sg} {Γ Γ' : List Kd} {pos : Pos}
theorem s_tryH {te : Expr} {f : Value → Option Bool} {body suite : List Stmt} {b₀ : Stmt} {pos' : Pos} {Γe : List Kd} {caught : Nat → Bool} {mb mh : MS} (hs : X.stack = X.env :: X.outer) (hf : X.env.frame = some X.env.locals)
    (hc : TstOk X te f) (hpa : ∀ hd : Option Value, PassesOwnAt (model X.prog X.w) (X.A.mark hd) X.A X.env X.xe) (tk : Tkn false X S.W) (hge : GeLe Γe S.ge) (hex : ∀ c, f (.ref (S.C.ct c).1) = some (caught c))
    (hb : ∀ (W : WX) (pn : List (Addr × Obj)) (xe : Value → Shared → Prop), Tkn true (X.tr pn xe) W → PassesOwn (model X.prog X.w) X.A X.env xe → EvSs (X.tr pn xe) (S.tr W Γe) Γ Γ' body mb)
    (hsu : ∀ (a : Addr) (oe : Obj) (pn : List (Addr × Obj)), Tkn false (suiteX X a ((a, oe) :: pn)) S.W → HotC (suiteX X a ((a, oe) :: pn)) → EvSs (suiteX X a ((a, oe) :: pn)) S Γe Γ' (b₀ :: suite) mh) :
    EvS X S Γ Γ' (.Try body [.ExceptHandler (some te) none (b₀ :: suite) pos'] [] [] pos) (mTryH caught mb mh) :=
  ps_imp (ps_tryH hs hf hc hpa tk (tb := fun W => Ts (S.tr W Γe) Γ Γ' mb) (ts := Ts S Γe Γ' mh) (fun W pn xe t pw => hb W pn xe t pw) (fun a oe pn t h => hsu a oe pn t h)) fun D σ H ⟨F, ρ, rs, h⟩ => by
    refine ⟨F, ρ, rs, ?_⟩
    unfold mTryH at h
    cases e : mb ρ with
    | nx ρ' => rw [e] at h; exact h
    | rt d ρ' => rw [e] at h; exact h
    | bk ρ' => rw [e] at h; exact h
    | ct ρ' => rw [e] at h; exact h
    | no => rw [e] at h; exact h
    | er z ρ' =>
      rw [e] at h
      simp only at h
      intro cl dx σ' F' H' sm re rx
      obtain ⟨rcl, rdx⟩ := id rx
      refine ⟨caught z.c, by rw [rcl]; exact hex z.c, fun hz => ?_, fun hz => ?_⟩
      · rw [if_pos hz] at h
        exact ⟨F', ρ', re, h.late sm⟩
      · rw [if_neg (by rw [hz]; exact Bool.false_ne_true)] at h
        obtain ⟨F2, sm2, re2⟩ := RE.le re hge
        exact h cl dx σ' F2 H' (sm.trans sm2) re2 (rx.mono sm2)
end
end G
namespace G
open PySem PySem.Spec PySem.Calls PyProof.Rows Builtin
section
variable {prog : Program} {w : World} {A : Around} {E : Value → Shared → Prop} {s : Shared} {K : Frag} {x C f : Addr} {ox : Obj} {od : Option Obj}
end
end G
namespace G
open PySem PySem.Spec PyProof.Rows L2 L2H HotX
section
variable {cn : Bool} {X : Cx} {k : Nat} {f : Addr} {fd : FuncData} {ps : List Str} {sp : Sp} {C : Addr} {ct : Ct}
end
/-- repr(x), x frozen data or an instance of a class with its own __repr__: the mirror -/
def mReprO (c : Nat) (MF : MFn) (m : M D) : M D := m.bind fun x => if isObj c x = true then (match MF [x] with
  | .ok (.str y) _ => M.ret (.str y)
  | _ => M.opt none) else M.opt (dRepr [x])
section
variable {cn : Bool} {X : Cx} {S : Sg} {Γ : List Kd} {pos : Pos} {k c : Nat} {f : Addr} {fd : FuncData} {ps : List Str} {p : Pos} {e : Expr} {MF : MFn} {mo : M D}
end
/-! ### isinstance(x, T), x data or an instance, T a built-in class -/
def dIsI (c : Nat) (T : Tk) (d : D) : Option D := if isObj c d = true then some (.bl false) else dIs T d
/-- the instances of C are no T -/
def notTB (K : Frag) (C : Addr) (T : Tk) : Bool := PySem.W.kitMeta T.s && PySem.W.subIn K (.ref C) (.type T.s) == some false
section
variable {X : Cx} {S : Sg} {Γ : List Kd} {pos : Pos}
end
end G
/-! G34: a list of one's own made by `+`; str.upper. -/
namespace G
open PySem PySem.Spec PyProof.Rows L2 L2H HotX PySem.Builtin.Str
section
variable {X : Cx} {S : Sg} {Γ : List Kd} {pos : Pos}
/-- a + b, both lists: a list of one's own -/
def dCat : D → D → Option D
  | .lst x, .lst y => if x.length + y.length ≤ sizeLine then some (.lst (x ++ y)) else none
  | _, _ => none
/-- str.upper -/
def tUpper (to : TE) : TE := fun σ H Q => to σ H fun v H1 => ∃ x, v = .str x ∧ tooLong (Txt.upper x).length = false ∧ Q (.str (Txt.upper x)) H1
def dUpper : D → Option D
  | .str x => if tooLong (Txt.upper x).length = false then some (.str (Txt.upper x)) else none
  | _ => none
end
end G
/-! G35: repr of lists that hold dicts (the written part tells that sys.modules is a dict, so that no list stands there). -/
namespace G
open PySem PySem.Spec PyProof.Rows L2
section
variable {X : Cx} {S : Sg} {Γ : List Kd} {K : Frag} {ct : Ct} {pos : Pos} {pins : List (Addr × Obj)} {σ : L2.St} {H F : Hp} {s : Shared}
def smB (K : Frag) : Bool := match K.lookup sysModules with
  | some o => decide (o.cls = .type "dict")
  | none => false
theorem sm_not {h : Heap} {o : Obj} (e : smB K = true) (x : K.In h) (ho : h.get? sysModules = some o) (hc : o.cls = .type "list") : False := by
  unfold smB at e
  cases z : K.lookup sysModules with
  | none => rw [z] at e; cases e
  | some o' =>
    rw [z] at e
    have e : o'.cls = .type "dict" := of_decide_eq_true e
    have := x _ _ z
    rw [ho] at this
    cases this
    rw [hc] at e
    exact absurd e (by simp)
mutual
theorem rp_readsM (I : Inv X pins σ H s) (hm : smB X.K = true) (hs : Same F H) : ∀ {d : D} {v : V} {u : Value} {p : PyData}, Rp X.K ct F d v → toPyR d = some p → RelV v u → ∃ as, Reads s.heap u p as ∧ sysModules ∉ as
  | .non, v, u, p, h, e, r => by simp only [toPyR] at e; cases e; rw [rp_non] at h; subst h; cases r; exact ⟨_, Reads.none, by simp⟩
  | .bl b, v, u, p, h, e, r => by simp only [toPyR] at e; cases e; rw [rp_bl] at h; subst h; cases r; exact ⟨_, Reads.bool b, by simp⟩
  | .int i, v, u, p, h, e, r => by simp only [toPyR] at e; cases e; rw [rp_int] at h; subst h; obtain ⟨t, rfl⟩ := r; exact ⟨_, Reads.int i t, by simp⟩
  | .str x, v, u, p, h, e, r => by simp only [toPyR] at e; cases e; rw [rp_str] at h; subst h; obtain ⟨t, rfl⟩ := r; exact ⟨_, Reads.str x t, by simp⟩
  | .tup xs, v, u, p, h, e, r => by
    simp only [toPyR] at e
    obtain ⟨ps, e1, rfl⟩ := Option.map_eq_some_iff.mp e
    obtain ⟨a, vs, rfl, h1, h2⟩ := rp_tup.mp h
    cases r
    obtain ⟨its, rv, ⟨o, ho, hc, n, hd⟩, _⟩ := I.tuple (same_t hs h1)
    obtain ⟨as, hr, hn⟩ := rpl_readsM I hm hs h2 e1 rv
    exact ⟨_, Reads.tuple ho hc hd hr, hn⟩
  | .lst xs, v, u, p, h, e, r => by
    simp only [toPyR] at e
    obtain ⟨ps, e1, rfl⟩ := Option.map_eq_some_iff.mp e
    obtain ⟨a, vs, rfl, h1, h2⟩ := rp_lst.mp h
    cases r
    obtain ⟨its, rv, ⟨o, n, ho, hc, _, hd⟩, _⟩ := I.list (SqL.of (hs _ _ h1))
    obtain ⟨as, hr, hn⟩ := rpl_readsM I hm hs h2 e1 rv
    exact ⟨_, Reads.list ho hc hd hr, fun z => by
      rcases List.mem_cons.mp z with z | z
      · exact sm_not hm I.kIn (z ▸ ho) hc
      · exact hn z⟩
  | .scr ns, v, u, p, h, e, r => by
    simp only [toPyR] at e
    cases e
    obtain ⟨a, rfl, h1⟩ := rp_scr.mp h
    cases r
    obtain ⟨its, rv, ⟨o, n, ho, hc, _, hd⟩, _⟩ := I.list (same_l hs h1)
    exact ⟨_, Reads.list ho hc hd (readsAll_ints rv), fun z => by
      rcases List.mem_cons.mp z with z | z
      · exact sm_not hm I.kIn (z ▸ ho) hc
      · cases z⟩
  | .dct [] [], v, u, p, h, e, r => by
    simp only [toPyR] at e
    cases e
    simp only [Rp] at h
    obtain ⟨a, vs, rfl, h1, h3⟩ := h
    cases r
    have hh : H a = some (.dK []) ∨ H a = some (.dT []) := by
      rcases h3 with ⟨kk, e1, e0, e2⟩ | ⟨kk, e1, e0, e2⟩ | ⟨kk, o, e1, e0, e2⟩
      · have : kk = [] := by simpa using e1.symm
        subst this
        exact .inl (hs _ _ e2)
      · cases e1
      · cases e1
    obtain ⟨q1, q2⟩ := dct_reads I hh
    exact ⟨_, q1, by simpa using fun z => q2 z.symm⟩
  | .dct (_ :: _) _, _, _, _, _, e, _ => by simp only [toPyR] at e; cases e
  | .dct [] (_ :: _), _, _, _, _, e, _ => by simp only [toPyR] at e; cases e
  | .obj _ _, _, _, _, _, e, _ => by simp only [toPyR] at e; cases e
  | .exc _ _, _, _, _, _, e, _ => by simp only [toPyR] at e; cases e
  | .dti _ _, _, _, _, _, e, _ => by simp only [toPyR] at e; cases e
theorem rpl_readsM (I : Inv X pins σ H s) (hm : smB X.K = true) (hs : Same F H) : ∀ {ds : List D} {vs : List V} {us : List Value} {ps : List PyData}, RpL X.K ct F ds vs → toPyRL ds = some ps → Vals vs us → ∃ as, ReadsAll s.heap us ps as ∧ sysModules ∉ as
  | [], vs, us, ps, h, e, r => by simp only [toPyRL] at e; cases e; rw [rpl_nil] at h; subst h; cases r; exact ⟨_, ReadsAll.nil, by simp⟩
  | d :: ds, vs, us, ps, h, e, r => by
    obtain ⟨v, w, rfl, h1, h2⟩ := rpl_cons.mp h
    simp only [toPyRL] at e
    split at e
    · rename_i p ps' e1 e2
      cases e
      cases r with
      | cons q1 q2 =>
        obtain ⟨as, z1, z2⟩ := rp_readsM I hm hs h1 e1 q1
        obtain ⟨bs, y1, y2⟩ := rpl_readsM I hm hs h2 e2 q2
        refine ⟨_, ReadsAll.cons z1 y1, ?_⟩
        rw [List.mem_append, not_or]
        exact ⟨z2, y2⟩
    · cases e
end
def reprOkL (p : PyData) : Bool := p.showable && decide (p.shown.length ≤ sizeLine) && decide (p.depth ≤ 60)
def rReprL (K : Frag) (ct : Ct) : List V → Hp → VK → Prop := fun vs H Q => ∃ (F : Hp) (v : V) (d : D) (p : PyData), vs = [v] ∧ Same F H ∧ Rp K ct F d v ∧ toPyR d = some p ∧ reprOkL p = true ∧ Q (.str p.shown) H
def dReprL : List D → Option D
  | [d] => (toPyR d).bind fun p => if reprOkL p = true then some (.str p.shown) else none
  | _ => none
end
end G
/-! G36: text * int. -/
namespace G
open PySem PySem.Spec PyProof.Rows L2
section
variable {X : Cx} {S : Sg} {Γ : List Kd} {pos : Pos} {K : Frag} {ct : Ct}
instance (x : Str) (n : Int) : Decidable (MulOk x n) := by unfold MulOk; exact inferInstance
def rMulS : R2 := fun x y H Q => ∃ i n, x = .str i ∧ y = .int n ∧ MulOk i n ∧ Q (.str (Txt.mul i n)) H
def dMulS : D → D → Option D
  | .str x, .int n => if MulOk x n then some (.str (Txt.mul x n)) else none
  | _, _ => none
end
end G
/-! G37: methods by keyword. -/
namespace G
open PySem PySem.Spec PyProof.Rows L2 L2H HotX
section
variable {cn : Bool} {X : Cx} {W : WX} {k n : Nat} {f C : Addr} {fd : FuncData} {ps kn : List Str} {sp : Sp} {g : List Value → List Value → List Value} {gV : List V → List V → List V} {x m : Str} {p pos apos : Pos} {e o : Expr} {es : List Expr} {kws : List Keyword} {t tkw : TA} {ta : TE}
def tMtGk (C : Addr) (m : Str) (n kl : Nat) (sp : Sp) (gV : List V → List V → List V) (W : WX) (ta : TE) (t : TA) : TE := fun σ H Q => ta σ H fun x H1 => ∃ a dx fs, x = .ref a ∧ H1 a = some (.ins C dx fs) ∧ fs.lookup m = none ∧
  t σ H1 fun zs H2 => 1 = n ∧ zs.length = kl ∧ sp (gV [x] zs) H2 Q (WE W σ)
end
/-- o.m(k=..), o frozen: the mirror -/
def mMthK (c n kl k : Nat) (gD : List D → List D → List D) (MF : MFn) (o : M D) (a : M (List D)) : M D := o.bind fun x => if isObj c x = true then a.bind fun zs => if 1 = n ∧ zs.length = kl ∧ (gD [x] zs).length = k then frM (MF (gD [x] zs)) else M.opt none else M.opt none
section
variable {cn : Bool} {X : Cx} {S : Sg} {Γ : List Kd} {pos : Pos} {k n c : Nat} {f : Addr} {fd : FuncData} {ps kn : List Str} {m : Str} {apos : Pos} {o : Expr} {kws : List Keyword} {ks : List Kd} {MF : MFn} {gD : List D → List D → List D} {mo : M D} {mk : M (List D)}
end
end G
/-! G38: == of an instance with its own `__eq__`, standing on the left. -/
namespace G
open PySem PySem.Spec PyProof.Rows L2 L2H HotX
section
variable {cn : Bool} {X : Cx} {k : Nat} {f : Addr} {fd : FuncData} {ps : List Str} {sp : Sp} {C : Addr}
def rEqO (K : Frag) (C : Addr) (sp : Sp) : R2 := fun x y H Q => ∃ a dx fs t, x = .ref a ∧ H a = some (.ins C dx fs) ∧ TyX K H y t ∧ PySem.W.notFirst K C t = true ∧ sp [x, y] H (fun v H' => ∃ b, v = .bl b ∧ Q (.bl b) H') (fun _ _ _ => False)
end
def eqSide (c : Nat) : D → Bool
  | .obj c' _ => decide (c' = c)
  | .exc _ _ => false
  | .dti _ _ => false
  | _ => true
/-- x == y, x perhaps an instance: the mirror -/
def mEqO (c : Nat) (MF : MFn) (a b : M D) : M D := a.bind fun x => b.bind fun y => if isObj c x = true then (if eqSide c y = true then (match MF [x, y] with
  | .ok (.bl z) _ => M.ret (.bl z)
  | _ => M.opt none) else M.opt none) else M.opt (dEq x y)
section
variable {cn : Bool} {X : Cx} {S : Sg} {Γ : List Kd} {pos : Pos} {k c : Nat} {f : Addr} {fd : FuncData} {ps : List Str} {a b : Expr} {MF : MFn} {ma mb : M D}
end
end G
/-! G39: len(x) of an instance with its own `__len__`. -/
namespace G
open PySem PySem.Spec PyProof.Rows L2 L2H HotX
section
variable {cn : Bool} {X : Cx} {k : Nat} {f : Addr} {fd : FuncData} {ps : List Str} {sp : Sp} {C : Addr}
end
/-- len(x) of an instance: the mirror -/
def mLenO (c : Nat) (MF : MFn) (m : M D) : M D := m.bind fun x => if isObj c x = true then (match MF [x] with
  | .ok (.int n) _ => if 0 ≤ n ∧ n < 2 ^ 63 then M.ret (.int n) else M.opt none
  | _ => M.opt none) else M.opt none
section
variable {cn : Bool} {X : Cx} {S : Sg} {Γ : List Kd} {pos : Pos} {k c : Nat} {f : Addr} {fd : FuncData} {ps : List Str} {p : Pos} {e : Expr} {MF : MFn} {mo : M D}
end
end G
/-! G40: != of an instance with its own `__eq__` and object's `__ne__`, standing on the left. -/
namespace G
open PySem PySem.Spec PySem.Calls PyProof.Rows PySem.SeqAt
section
variable {prog : Program} {w : World} {A : Around} {E : Value → Shared → Prop} {s : Shared} {K : Frag} {x C f : Addr} {ox : Obj} {od : Option Obj} {b tb : Value}
end
end G
namespace G
open PySem PySem.Spec PyProof.Rows L2 L2H HotX
section
variable {cn : Bool} {X : Cx} {k : Nat} {f : Addr} {fd : FuncData} {ps : List Str} {sp : Sp} {C : Addr}
def rNeO (K : Frag) (C : Addr) (sp : Sp) : R2 := fun x y H Q => ∃ a dx fs t, x = .ref a ∧ H a = some (.ins C dx fs) ∧ TyX K H y t ∧ PySem.W.notFirst K C t = true ∧ sp [x, y] H (fun v H' => ∃ b, v = .bl b ∧ Q (.bl (!b)) H') (fun _ _ _ => False)
end
/-- x != y, x perhaps an instance: the mirror -/
def mNeO (c : Nat) (MF : MFn) (a b : M D) : M D := a.bind fun x => b.bind fun y => if isObj c x = true then (if eqSide c y = true then (match MF [x, y] with
  | .ok (.bl z) _ => M.ret (.bl (!z))
  | _ => M.opt none) else M.opt none) else M.opt (dNe x y)
section
variable {cn : Bool} {X : Cx} {S : Sg} {Γ : List Kd} {pos : Pos} {k c : Nat} {f : Addr} {fd : FuncData} {ps : List Str} {a b : Expr} {MF : MFn} {ma mb : M D}
end
def neqB (K : Frag) (C : Addr) : Bool := decide (PySem.W.findIn K (.ref C) "__ne__" = some (some (.builtin "object.__ne__")))
end G
/-! G41: the truth of an instance with its own `__len__` and no `__bool__`. -/
namespace G
open PySem PySem.Spec PySem.Calls PyProof.Rows
section
variable {prog : Program} {w : World} {A : Around} {E : Value → Shared → Prop} {s : Shared} {K : Frag} {x C f : Addr} {ox : Obj} {od : Option Obj}
end
end G
namespace G
open PySem PySem.Spec PyProof.Rows L2 L2H HotX
section
variable {cn : Bool} {X : Cx} {k : Nat} {f : Addr} {fd : FuncData} {ps : List Str} {sp : Sp} {C : Addr}
end
/-- bool(x) of an instance: the mirror -/
def mBoolO (c : Nat) (MF : MFn) (m : M D) : M D := m.bind fun x => if isObj c x = true then (match MF [x] with
  | .ok (.int n) _ => if 0 ≤ n ∧ n < 2 ^ 63 then M.ret (.bl (n != 0)) else M.opt none
  | _ => M.opt none) else M.opt none
section
variable {cn : Bool} {X : Cx} {S : Sg} {Γ : List Kd} {pos : Pos} {k c : Nat} {f : Addr} {fd : FuncData} {ps : List Str} {p : Pos} {e : Expr} {MF : MFn} {mo : M D}
end
def nboB (K : Frag) (C : Addr) : Bool := decide (PySem.W.findIn K (.ref C) "__bool__" = some none)
end G
/-! G42: binding by keyword where there are defaults, all handed in. -/
namespace G
open PySem PySem.Spec PyProof.Rows L2 L2H HotX
section
variable {K : Frag} {ct : Ct} {x qual : Str} {params : Arguments} {body : List Stmt} {scope : Scope} {dvs : List V} {f : Addr} {fd : FuncData} {ps : List Str}
end
/-! own exceptions over RuntimeError, without a field -/
def reBase : List Value := [.type "RuntimeError", .type "Exception", .type "BaseException", .type "object"]
def excRB (K : Frag) (a : Addr) : Bool := PySem.W.excIn K a reBase "RuntimeError.__new__" && (PySem.W.keepIn K (.ref a) && (decide (PySem.W.subIn K (.ref a) (.type "BaseException") = some true) && decide (PySem.W.typeIn K (.ref a) = some (.type "type"))))
end G
/-! G43: zip of two with strict=True. -/
namespace PySem
open Sem (wp)
abbrev IsZipS (h : Heap) (z TI TO : Addr) (f0 : Value) : Prop :=
  h.get? z = some { cls := .type "zip", dict := none, data := .fields #[f0, .bool false, .bool true, .ref TI, .ref TO], slots := #[] }
section
variable {prog : Program} {w : World} {A : Around} {E : Value → Shared → Prop} {s : Shared} {z TI TO i1 i2 : Addr} {fp1 fp2 : List Addr} {n1 n2 i : Nat} {P1 P2 : Nat → Value → Prop} {St1 St2 : Nat → Heap → Prop} {a1 a2 : Value}
abbrev gzS2 (h : Heap) (o1 o2 : Obj) : Heap := (gzO2 h o1 o2).push { cls := .type "zip", data := .fields #[.none, .bool false, .bool true, .ref ((h.push o1).push o2).objs.size, .ref (gzT2 h o1 o2).objs.size] }
end
end PySem
namespace G
open PySem PySem.Spec PyProof.Rows L2
/-- zip of two, strict -/
def ItzS (K : Frag) (sd sd2 : Sd) (a b : Addr) : It :=
  ⟨fun i H => ∃ (xs ys : List V) (x y : V), SqB K sd H a xs ∧ SqB K sd2 H b ys ∧ xs[i]? = some x ∧ ys[i]? = some y,
    fun i H v H' => ∃ T x y ob, v = .ref T ∧ H T = none ∧ ob.dict = none ∧ H' = upd H T (mkT ob [x, y]) ∧ (∀ xs, SqB K sd H a xs → xs[i]? = some x) ∧ ∀ ys, SqB K sd2 H b ys → ys[i]? = some y,
    fun i H => ∃ xs ys : List V, SqB K sd H a xs ∧ SqB K sd2 H b ys ∧ i = xs.length ∧ i = ys.length⟩
def iZipS (K : Frag) (ta tk : TA) : TI := fun σ H R => ta σ H fun vs H1 => tk σ H1 fun ks H2 => ∃ sd sd2 a b xs ys, vs = [.ref a, .ref b] ∧ ks = [.bl true] ∧ SqB K sd H2 a xs ∧ SqB K sd2 H2 b ys ∧ R (ItzS K sd sd2 a b) H2
/-! data -/
section
variable {K : Frag} {ct : Ct} {F : Hp}
end
/-- both as long -/
def dZpS (ds : List D) : Option (List D) := match ds with
  | [a, b] => match dSq a, dSq b with
    | some ds, some es => if ds.length = es.length then some (zpD ds es) else none
    | _, _ => none
  | _ => none
def mZpS (m : M (List D)) : M (List D) := m.bind fun ds => M.opt (dZpS ds)
section
variable {X : Cx} {S : Sg} {Γ Γ' : List Kd} {pos : Pos}
end
end G
/-! G44: dicts with keys ints and texts: displays, comprehensions, get. -/
namespace G
open PySem PySem.Spec PyProof.Rows L2
/-! ### keys -/
def kO : D → Option Key
  | .int i => some (.inl i)
  | .str x => some (.inr x)
  | _ => none
theorem kO_kD (k : Key) : kO (kD k) = some k := by cases k <;> rfl
def ksO : List D → Option (List Key)
  | [] => some []
  | d :: ds => (kO d).bind fun k => (ksO ds).map fun r => k :: r
theorem ksO_map : ∀ kk : List Key, ksO (kk.map kD) = some kk
  | [] => rfl
  | k :: kk => by simp only [List.map_cons, ksO, kO_kD, ksO_map kk, Option.bind_some, Option.map_some]
section
variable {α β : Type}
def luK : List Key → List α → Key → Option α
  | k :: kk, w :: ws, j => if k = j then some w else luK kk ws j
  | _, _, _ => none
def stK : List Key → List α → Key → α → List α
  | k :: kk, w :: ws, j, x => (if k = j then x else w) :: stK kk ws j x
  | _, _, _, _ => []
def hasK (kk : List Key) (j : Key) : Bool := kk.any fun k => decide (k = j)
def pkK (kk : List Key) (j : Key) : List Key := if hasK kk j = true then kk else kk ++ [j]
def puK (kk : List Key) (ws : List α) (j : Key) (x : α) : List α := if hasK kk j = true then stK kk ws j x else ws ++ [x]
end
section
variable {K : Frag} {ct : Ct} {F : Hp}
end
/-! ### d.get(k, x) -/
def isDk : D → Bool
  | .dct ks _ => (ksO ks).isSome
  | _ => false
def dcGt : D → D → D → Option D
  | .dct ks ws, k, x => (ksO ks).bind fun kk => (kO k).map fun j => (luK kk ws j).getD x
  | _, _, _ => none
def mDg2 (mo me mf : M D) : M D := mo.bind fun d => if isDk d = true then me.bind fun k => mf.bind fun x => M.opt (dcGt d k x) else M.opt none
section
variable {X : Cx} {S : Sg} {Γ : List Kd}
end
/-! ### {k: v, ..} -/
def mgK {α : Type} : List Key → List α → List (Key × α) → List Key × List α
  | kk, ws, [] => (kk, ws)
  | kk, ws, (k, x) :: r => mgK (pkK kk k) (puK kk ws k x) r
/-- pairs that lie at values -/
def RpK (K : Frag) (ct : Ct) (F : Hp) : List (Key × D) → List (Key × V) → Prop
  | [], vs => vs = []
  | p :: r, vs => ∃ w t, vs = (p.1, w) :: t ∧ Rp K ct F p.2 w ∧ RpK K ct F r t
def psO : List (D × D) → Option (List (Key × D))
  | [] => some []
  | (d, w) :: r => (kO d).bind fun k => (psO r).map fun l => (k, w) :: l
def dctOf (l : List (Key × D)) : D := let z := mgK [] [] l; .dct (z.1.map kD) z.2
def mDcs : List (M D × M D) → M (List (D × D))
  | [] => M.ret []
  | (a, b) :: r => a.bind fun x => b.bind fun y => (mDcs r).bind fun l => M.ret ((x, y) :: l)
def dsO (ps : List (D × D)) : Option D := if ps.length ≤ 15 then (psO ps).map dctOf else none
def mDsp (ms : List (M D × M D)) : M D := (mDcs ms).bind fun l => M.opt (dsO l)
def RpP (K : Frag) (ct : Ct) (F : Hp) : List (D × D) → List (V × V) → Prop
  | [], vs => vs = []
  | p :: r, vs => ∃ v w t, vs = (v, w) :: t ∧ Rp K ct F p.1 v ∧ Rp K ct F p.2 w ∧ RpP K ct F r t
def rPr (S : Sg) : Rel (List (D × D)) (List (V × V)) := fun _ F _ ps vs => RpP S.C.K S.C.ct F ps vs
theorem RpP.mono {K : Frag} {ct : Ct} {F F' : Hp} (e : Same F F') : ∀ {ps : List (D × D)} {vs : List (V × V)}, RpP K ct F ps vs → RpP K ct F' ps vs
  | [], _, h => h
  | p :: r, _, ⟨v, w, t, e1, h1, h2, h3⟩ => ⟨v, w, t, e1, h1.mono e, h2.mono e, RpP.mono e h3⟩
section
variable {X : Cx} {S : Sg} {Γ : List Kd}
/-- the readings of a display's pairs -/
inductive Dcs (X : Cx) (S : Sg) (Γ : List Kd) : List (Option Expr) → List Expr → List (M D × M D) → Prop
  | nil : Dcs X S Γ [] [] []
  | cons {k v : Expr} {ks : List (Option Expr)} {vs : List Expr} {a b : M D} {r : List (M D × M D)} : EvE X S Γ k a → EvE X S Γ v b → Dcs X S Γ ks vs r → Dcs X S Γ (some k :: ks) (v :: vs) ((a, b) :: r)
def trsOf (S : Sg) (Γ : List Kd) : List (M D × M D) → List (TE × TE)
  | [] => []
  | (a, b) :: r => (Tr S Γ (rD S) a, Tr S Γ (rD S) b) :: trsOf S Γ r
end
end G
/-! G45: {k: v for ..}, one clause. -/
namespace G
open PySem PySem.Spec PyProof.Rows L2
def prD : List D → Option (List (Key × D))
  | [] => some []
  | .tup [d, w] :: r => (kO d).bind fun k => (prD r).map fun l => (k, w) :: l
  | _ => none
def dcD : D → Option D
  | .lst r => (prD r).map dctOf
  | _ => none
def mPr (ek ev : M D) : M D := mTup (mCons ek (mCons ev mNil))
def mDc (vs : List Nat) (it : M (List D)) (g : MG) (t : M Bool) (e : M D) : M D := (mLc vs it g t e).bind fun d => M.opt (dcD d)
theorem RpK.mono {K : Frag} {ct : Ct} {F F' : Hp} (e : Same F F') : ∀ {l : List (Key × D)} {m : List (Key × V)}, RpK K ct F l m → RpK K ct F' l m
  | [], _, h => h
  | p :: r, _, ⟨w, t, e1, h1, h2⟩ => ⟨w, t, e1, h1.mono e, RpK.mono e h2⟩
theorem RpK.snoc {K : Frag} {ct : Ct} {F : Hp} {k : Key} {d : D} {v : V} (r : Rp K ct F d v) : ∀ {l : List (Key × D)} {m : List (Key × V)}, RpK K ct F l m → RpK K ct F (l ++ [(k, d)]) (m ++ [(k, v)])
  | [], _, h => by cases h; exact ⟨v, [], rfl, r, rfl⟩
  | p :: l, _, ⟨w, t, e1, h1, h2⟩ => by subst e1; exact ⟨w, t ++ [(k, v)], rfl, h1, RpK.snoc r h2⟩
theorem RpK.len {K : Frag} {ct : Ct} {F : Hp} : ∀ {l : List (Key × D)} {m : List (Key × V)}, RpK K ct F l m → l.length = m.length
  | [], _, h => by cases h; rfl
  | p :: l, _, ⟨w, t, e1, h1, h2⟩ => by subst e1; simp [RpK.len h2]
section
variable {X : Cx} {S : Sg} {Γ : List Kd} {pos : Pos}
end
end G
/-! G46: int >> int, int & 1; k in d, k not in d, d[k] of a frozen dict. -/
namespace G
open PySem PySem.Spec PyProof.Rows L2
abbrev dSr : D → D → Option D := dInt (fun _ j => 0 ≤ j) fun i j => i / 2 ^ j.toNat
abbrev dAn : D → D → Option D := dInt (fun _ j => j = 1) fun i _ => i % 2
section
variable {X : Cx} {S : Sg} {Γ : List Kd}
end
/-! ### a, b, .. = a list of that length -/
def gTL (n : Nat) (gs : MGs) : MG := fun d ρ => match d with
  | .lst ds => if ds.length = n then gs ds ρ else none
  | _ => none
section
variable {X : Cx} {S : Sg} {Γ Γ' : List Kd} {pos : Pos}
end
end G
/-! G47: str of a tuple, a list. -/
namespace G
open PySem PySem.Spec PyProof.Rows L2
def isSq : D → Bool
  | .tup _ => true
  | .lst _ => true
  | _ => false
def dStrR : List D → Option D
  | [d] => if isSq d = true then dRepr [d] else none
  | _ => none
section
variable {X : Cx} {S : Sg} {Γ : List Kd} {pos : Pos} {ct : Ct}
def rStrR (K : Frag) (ct : Ct) : List V → Hp → VK → Prop := fun vs H Q => ∃ (F : Hp) (v : V) (d : D) (p : PyData), vs = [v] ∧ Same F H ∧ Rp K ct F d v ∧ toPyR d = some p ∧ reprOk d p = true ∧ isSq d = true ∧ Q (.str p.shown) H
end
end G
/-! G48: dict(a list of pairs). -/
namespace G
open PySem PySem.Spec PyProof.Rows L2
def dDcL : List D → Option D
  | [d] => dcD d
  | _ => none
section
variable {X : Cx} {S : Sg} {Γ : List Kd} {pos : Pos}
end
end G
/-! G49: xs.index(x), xs a list of plain data. -/
namespace G
open PySem PySem.Spec PyProof.Rows L2
def rIxP (K : Frag) : V → List V → Hp → VK → Prop := fun x xs H Q => ∃ (a : Addr) (y : V) (d : PyData) (ds : List PyData) (j : Nat) (z : PyData), x = V.ref a ∧ xs = [y] ∧ Dp K H (V.ref a) (.list ds) ∧ Dp K H y d ∧
  PyData.plainAll ds = true ∧ d.plain = true ∧ min (PyData.depthAll ds) d.depth ≤ 60 ∧ ds[j]? = some z ∧ PyData.eqv z d = true ∧ (∀ (m : Nat) (z' : PyData), m < j → ds[m]? = some z' → PyData.eqv z' d = false) ∧ Q (.int (j : Nat)) H
/-- the first place of an equal one -/
def ixP (d : PyData) : List PyData → Option Nat
  | [] => none
  | z :: r => if PyData.eqv z d = true then some 0 else (ixP d r).map (· + 1)
def isLstD : D → Bool
  | .lst _ => true
  | _ => false
def dPix : D → List D → Option D
  | d, [y] => match toPy d, toPy y with
    | some (.list ds), some p => if min (PyData.depthAll ds) p.depth ≤ 60 then (ixP p ds).map fun j => D.int (j : Nat) else none
    | _, _ => none
  | _, _ => none
def mPix (o : M D) (a : M (List D)) : M D := o.bind fun d => if isLstD d = true then a.bind fun ds => M.opt (dPix d ds) else M.opt none
section
variable {X : Cx} {S : Sg} {Γ : List Kd} {pos : Pos}
end
end G
/-! G50: == with an instance on the right. -/
namespace G
open PySem PySem.Spec PyProof.Rows L2
section
end
end G
/-! G51: the datum on the left declines, whatever kind. -/
namespace G
open PySem PySem.Spec PyProof.Rows L2 L2H HotX
def nsubB (K : Frag) (C : Addr) : Bool := ["NoneType", "bool", "int", "str", "tuple", "list", "dict"].all fun T => decide (PySem.W.subIn K (.ref C) (.type T) = some false)
/-- what stands on the left -/
inductive LK (K : Frag) (H : Hp) : V → Prop
  | non : LK K H .non
  | bl (b : Bool) : LK K H (.bl b)
  | int (i : Int) : LK K H (.int i)
  | str (x : Str) : LK K H (.str x)
  | tup {a : Addr} {xs : List V} : SqT K H a xs → LK K H (.ref a)
  | lst {a : Addr} {xs : List V} : SqL K H a xs → LK K H (.ref a)
  | dct {a : Addr} {kvs : List (Key × V)} : H a = some (.dK kvs) → LK K H (.ref a)
structure Dec (P : Program) (w : World) (A : Around) (K : Frag) (C : Addr) (s : Shared) (u : Value) (y : Addr) (E : Value → Shared → Prop) : Prop where
  ex : ∃ T ida, s.TypeIs u T ∧ Slot T "__eq__" ida ∧ PySem.W.subIn K (.ref C) (.type T) = some false ∧ wpAny (model P w) A (call (.builtin ida) [u, .ref y]) (fun v s' => v = .notImplemented ∧ s' = s) E s
section
variable {cn : Bool} {X : Cx} {k : Nat} {f : Addr} {fd : FuncData} {ps : List Str} {sp : Sp} {C : Addr}
/-- datum == instance -/
def rEqRO (K : Frag) (C : Addr) (sp : Sp) : R2 := fun x y H Q => ∃ a dx fs, y = .ref a ∧ H a = some (.ins C dx fs) ∧ LK K H x ∧ sp [y, x] H (fun v H' => ∃ b, v = .bl b ∧ Q (.bl b) H') (fun _ _ _ => False)
end
end G
/-! G52: == with an instance at either side. -/
namespace G
open PySem PySem.Spec PyProof.Rows L2 L2H HotX
def lkD : D → Bool
  | .non => true | .bl _ => true | .int _ => true | .str _ => true | .tup _ => true | .lst _ => true | .scr _ => true
  | .dct ks _ => (ksO ks).isSome
  | _ => false
/-- x == y, either of them perhaps an instance -/
def mEqB (c : Nat) (MF : MFn) (a b : M D) : M D := a.bind fun x => b.bind fun y => if isObj c x = true then (if eqSide c y = true then (match MF [x, y] with
  | .ok (.bl z) _ => M.ret (.bl z)
  | _ => M.opt none) else M.opt none) else if isObj c y = true then (if lkD x = true then (match MF [y, x] with
  | .ok (.bl z) _ => M.ret (.bl z)
  | _ => M.opt none) else M.opt none) else M.opt (dEq x y)
section
variable {cn : Bool} {X : Cx} {S : Sg} {Γ : List Kd} {pos : Pos} {k c : Nat} {f : Addr} {fd : FuncData} {ps : List Str} {a b : Expr} {MF : MFn} {ma mb : M D}
end
end G
/-! G53: dicts whose keys are tuples of ints: {k: v}, k in d, d[k] = v. -/
namespace G
open PySem PySem.Spec PyProof.Rows L2
section
variable {κ α : Type} [DecidableEq κ]
def lkG : List κ → List α → κ → Option α
  | k :: kk, w :: ws, j => if k = j then some w else lkG kk ws j
  | _, _, _ => none
def skG : List κ → List α → κ → α → List α
  | k :: kk, w :: ws, j, x => (if k = j then x else w) :: skG kk ws j x
  | _, _, _, _ => []
def haG (kk : List κ) (j : κ) : Bool := kk.any fun k => decide (k = j)
def pkG (kk : List κ) (j : κ) : List κ := if haG kk j = true then kk else kk ++ [j]
def ukG (kk : List κ) (ws : List α) (j : κ) (x : α) : List α := if haG kk j = true then skG kk ws j x else ws ++ [x]
def bkG (kk : List κ) (bs : List α) (j : κ) (b : α) : List α := if haG kk j = true then bs else bs ++ [b]
end
section
variable {κ : Type} [DecidableEq κ]
end
section
variable {X : Cx} {pins : List (Addr × Obj)} {σ : L2.St} {H : Hp} {s : Shared} {A : Around} {E : Value → Shared → Prop} {a b c : Addr} {kk : List (List Int)} {bs : List Addr} {vs : List V} {j : List Int}
abbrev iK (X : Cx) : HeapKind X.prog X.w (List Int) := tupleKind (PySem.intKind X.prog X.w)
end
section
variable {X : Cx}
/-- k in d, k not in d -/
def rInI (K : Frag) (neg : Bool) : R2 := fun x y H Q => ∃ c b a kk bs vs j, x = .ref c ∧ y = .ref b ∧ H b = some (dtH a kk bs vs) ∧ DtK K H kk bs vs ∧ SqT K H c (j.map V.int) ∧ Q (.bl (if neg = true then !haG kk j else haG kk j)) H
def rSetI (K : Frag) : V → V → V → Hp → (Hp → Prop) → Prop := fun o i v H Q => ∃ b c a kk bs vs j, o = .ref b ∧ i = .ref c ∧ H b = some (dtH a kk bs vs) ∧ DtK K H kk bs vs ∧ SqT K H c (j.map V.int) ∧ kk.length < sizeLine ∧ Q (upd H b (dtH b (pkG kk j) (bkG kk bs j c) (ukG kk vs j v)))
end
end G
/-! G54: dicts whose keys are tuples of ints: the mirrors. -/
namespace G
open PySem PySem.Spec PyProof.Rows L2
section
variable {X : Cx}
/-- {k: v} -/
def tDspI (K : Frag) (tk tv : TE) : TE := fun σ H Q => ∀ p, H p = none → tPairs [(tk, tv)] σ (upd H p (dtH p [] [] [])) fun ps H2 => H2 p = some (dtH p [] [] []) ∧ ∃ (c : Addr) (j : List Int) (z : V), ps = [(.ref c, z)] ∧ SqT K H2 c (j.map V.int) ∧ Q (.ref p) (upd H2 p (dtH p [j] [c] [z]))
end
/-! ### the mirrors -/
def intsO : List D → Option (List Int)
  | [] => some []
  | .int i :: ds => (intsO ds).map fun r => i :: r
  | _ :: _ => none
def iO : D → Option (List Int)
  | .tup xs => intsO xs
  | _ => none
theorem intsO_map : ∀ l : List Int, intsO (l.map D.int) = some l
  | [] => rfl
  | i :: l => by simp only [List.map_cons, intsO, intsO_map l, Option.map_some]
def dInI (neg : Bool) (k : D) : D → Option D
  | .dti kk _ => (iO k).map fun j => .bl (if neg = true then !haG kk j else haG kk j)
  | _ => none
section
variable {X : Cx} {K : Frag} {ct : Ct} (hu : X.A.units + 64 < cLine) (hK : K = X.K)
include hu hK
end
section
variable {X : Cx} {S : Sg} {Γ : List Kd} {pos : Pos}
/-- slot[k] =, the keys tuples of ints -/
def gSbI (i : Nat) (mi : M D) : MG := fun d ρ => match ρ[i]? with
  | some (some _) => match mi ρ with
    | .ok k ρ1 => match ρ1[i]? with
      | some (some (.dti kk ws)) => (iO k).bind fun j => if kk.length < sizeLine then some (ρ1.set i (some (.dti (pkG kk j) (ukG kk ws j d)))) else none
      | _ => none
    | _ => none
  | _ => none
/-- {k: v} -/
def mDspI (a b : M D) : M D := a.bind fun k => b.bind fun x => M.opt ((iO k).map fun j => .dti [j] [x])
end
end G
/-! G55: tuple * 1. -/
namespace G
open PySem PySem.Spec PyProof.Rows L2 L2H HotX
def rRep1 (K : Frag) : R2 := fun x y H Q => ∃ l xs, x = .ref l ∧ y = .int 1 ∧ SqT K H l xs ∧ Q (.ref l) H
def dMulU (a b : D) : Option D := match b with
  | .int 1 => match a with
    | .tup x => some (.tup x)
    | _ => none
  | _ => dMulT a b
section
variable {X : Cx} {S : Sg} {Γ : List Kd} {pos : Pos} {K : Frag} {ct : Ct}
end
end G
/-! G56: the sum of a tuple of ints. -/
namespace G
open PySem PySem.Spec PyProof.Rows L2
section
variable {prog : Program} {w : World} {A : Around} {E : Value → Shared → Prop} {s : Shared} {l : Addr} {its : List Value} {ns : List Int}
end
def rSumT (K : Frag) : List V → Hp → VK → Prop := fun vs H Q => ∃ (a : Addr) (ns : List Int), vs = [V.ref a] ∧ SqT K H a (ns.map V.int) ∧ Q (.int ns.sum) H
def dSumT : List D → Option D
  | [.tup xs] => (dInts xs).map fun bs => .int bs.sum
  | _ => none
end G
/-! G57: dicts with keys ints and texts, one's own or frozen: k in d, d[k], d.get(k, x), d[k] = x, d.update(e). -/
namespace G
open PySem PySem.Spec PyProof.Rows L2
/-- the keys of a dict, locked or not -/
def kyO : List D → Option (List Key)
  | .bl true :: ks => ksO ks
  | ks => ksO ks
section
variable {K : Frag} {ct : Ct} {F H : Hp} {a : Addr} {o : HO} {ks ws : List D} {kk : List Key}
end
/-- what a dict holds at a key -/
def dGO (k : D) : D → Option (Option D)
  | .dct ks ws => (kyO ks).bind fun kk => (kO k).map fun j => luK kk ws j
  | _ => none
section
variable {X : Cx}
def rInD (neg : Bool) : R2 := fun x y H Q => ∃ a o, y = .ref a ∧ DGet H a x o ∧ Q (.bl (if neg = true then !o.isSome else o.isSome)) H
def rIxD2 : R2 := fun x y H Q => ∃ a v, x = .ref a ∧ DGet H a y (some v) ∧ Q v H
end
def dInD (neg : Bool) (k d : D) : Option D := (dGO k d).map fun r => .bl (if neg = true then !r.isSome else r.isSome)
def dIxD (d k : D) : Option D := (dGO k d).bind fun r => r
section
variable {X : Cx} {K : Frag} {ct : Ct} (hu : X.A.units + 64 < cLine)
include hu
end
section
variable {X : Cx} {S : Sg} {Γ : List Kd} {pos : Pos}
/-! ### d.get(k, x) -/
def isDy : D → Bool
  | .dct ks _ => (kyO ks).isSome
  | _ => false
def dgO (d k x : D) : Option D := (dGO k d).map fun r => r.getD x
def mDgF (mo me mf : M D) : M D := mo.bind fun d => if isDy d = true then me.bind fun k => mf.bind fun x => M.opt (dgO d k x) else M.opt none
def mDgL (i : Nat) (me mf : M D) : M D := (mV i).bind fun d0 => if isDy d0 = true then me.bind fun k => mf.bind fun x => (mV i).bind fun d => M.opt (dgO d k x) else M.opt none
section
variable {o e f : Expr} {mo me mf : M D} {apos cpos : Pos}
end
end
end G
/-! G58: one's own dicts: d[k] = x, d.update(e), dict(a tuple of pairs); a dict that is known to its object: for k in d, sorted(d). -/
namespace G
open PySem PySem.Spec PyProof.Rows L2
section
variable {X : Cx}
def rUpdD : V → List V → Hp → VK → Prop := fun x xs H Q => ∃ (a b : Addr) (kvs more : List (Key × V)), x = .ref a ∧ xs = [.ref b] ∧ a ≠ b ∧ H a = some (.dK kvs) ∧ Rd H b (.dK more) ∧ kvs.length + more.length ≤ sizeLine ∧ Q .non (upd H a (.dK (mergeK kvs more)))
def rDicT (K : Frag) : List V → Hp → VK → Prop := fun xs H Q => ∃ (a : Addr) (ps : List Addr) (kvs : List (Key × V)), xs = [.ref a] ∧ SqT K H a (ps.map V.ref) ∧ NoD K H a ∧ Paired (fun p kv => SqT K H p [kV kv.1, kv.2]) ps kvs ∧ ∀ p, H p = none → Q (.ref p) (upd H p (.dK (mergeK [] kvs)))
end
end G
/-! G59: the mirrors of G58. -/
namespace G
open PySem PySem.Spec PyProof.Rows L2
section
variable {K : Frag} {ct : Ct} {F H : Hp}
end
/-- d.update(e) -/
def hUpd (d : D) (ds : List D) : Option (D × D) := match d, ds with
  | .dct ks ws, [.dct ls us] => (ksO ks).bind fun kk => (ksO ls).bind fun ll => if ws.length + us.length ≤ sizeLine then some (.non, .dct ((mgK kk ws (ll.zip us)).1.map kD) (mgK kk ws (ll.zip us)).2) else none
  | _, _ => none
def isDkO : D → Bool
  | .dct ks _ => (ksO ks).isSome
  | _ => false
def mMlD (i : Nat) (h : D → List D → Option (D × D)) (ms : M (List D)) : M D := fun ρ => match ρ[i]? with
  | some (some d) => if isDkO d = true then mMt i h ms ρ else .no
  | _ => .no
section
variable {X : Cx} {S : Sg} {Γ : List Kd}
/-! ### slot[k] = -/
def gSbD (i : Nat) (mi : M D) : MG := fun d ρ => match ρ[i]? with
  | some (some _) => match mi ρ with
    | .ok k ρ1 => match ρ1[i]? with
      | some (some (.dct ks ws)) => (ksO ks).bind fun kk => (kO k).bind fun j => if ws.length < sizeLine then some (ρ1.set i (some (.dct ((pkK kk j).map kD) (puK kk ws j d)))) else none
      | _ => none
    | _ => none
  | _ => none
/-! ### dict(a tuple of pairs), one's own -/
def dDcT : List D → Option D
  | [.tup r] => (prD r).map dctOf
  | _ => none
/-! ### a dict that is known to its object from now on -/
def lkDt : D → Option D
  | .dct ks ws => (ksO ks).map fun _ => .dct (.bl true :: ks) ws
  | _ => none
def mLk (m : M D) : M D := m.bind fun d => M.opt (lkDt d)
/-! ### for k in d -/
def dItL : D → Option (List D)
  | .dct (.bl true :: ks) _ => (ksO ks).map fun _ => ks
  | _ => none
def mItL (m : M D) : M (List D) := m.bind fun d => M.opt (dItL d)
end
/-! ### sorted(d) -/
def intsK : List Key → Option (List Int)
  | [] => some []
  | .inl i :: r => (intsK r).map fun l => i :: l
  | _ :: _ => none
def srtI (ns : List Int) : List Int := ns.mergeSort fun a b => decide (a ≤ b)
def dSrtD : List D → Option D
  | [.dct ks _] => (kyO ks).bind fun kk => (intsK kk).bind fun ns => if ns.length < 64 then some (.lst ((srtI ns).map D.int)) else none
  | _ => none
end G
/-! G60: a list is extended by a tuple. -/
namespace G
open PySem PySem.Spec PyProof.Rows L2
def rExtT (K : Frag) : V → List V → Hp → VK → Prop := fun x vs H Q => ∃ l b xs zs, x = .ref l ∧ vs = [.ref b] ∧ H l = some (.lst xs) ∧ SqT K H b zs ∧ xs.length + zs.length ≤ sizeLine ∧ Q .non (upd H l (.lst (xs ++ zs)))
def hExtT : D → List D → Option (D × D)
  | .lst xs, [.tup ys] => if xs.length + ys.length ≤ sizeLine then some (.non, .lst (xs ++ ys)) else none
  | _, _ => none
end G
/-! G61: sorted(set(list of ints)). -/
namespace G
open PySem PySem.Spec PyProof.Rows L2
section
variable {P : Program} {w : World} {A : Around} {E : Value → Shared → Prop} {s : Shared}
/- a list where HandS.SetFor has a tuple: its proof, turned -/
end
def ddI (ns : List Int) : List Int := ns.foldr (fun x a => if x ∈ a then a else x :: a) []
def rSrtSet (K : Frag) : List V → Hp → VK → Prop := fun vs H1 Q => ∃ (p : Addr) (ns : List Int), vs = [.ref p] ∧ SqL K H1 p (ns.map V.int) ∧ ns.length ≤ 1000 ∧ (ddI ns).length < 64 ∧ ∀ l, H1 l = none → Q (.ref l) (upd H1 l (.lst ((srtI (ddI ns)).map V.int)))
section
variable {X : Cx} {e : Expr} {ta : TA} {p p2 pos pos2 : Pos}
end
def dSrtSet : List D → Option D
  | [.lst xs] => (dInts xs).bind fun ns => if ns.length ≤ 1000 ∧ (ddI ns).length < 64 then some (.lst ((srtI (ddI ns)).map D.int)) else none
  | _ => none
section
variable {X : Cx} {S : Sg} {Γ : List Kd}
/-! ### [x] * n, one's own -/
def dRepO : D → D → Option D
  | .lst x, .int k => if -(2 ^ 63) ≤ k ∧ k < 2 ^ 63 ∧ x.length * k.toNat ≤ sizeLine then some (.lst (List.replicate k.toNat x).flatten) else none
  | _, _ => none
end
end G
/-! G62: list(enumerate(xs)). -/
namespace G
open PySem PySem.Spec PyProof.Rows L2
section
variable {prog : Program} {w : World} {A : Around} {E : Value → Shared → Prop} {s : Shared}
/- the next of an enumerate whose tuple is still out: over whatever is drawn from -/
/-- an enumerate at its i-th: nothing is out yet, or a tuple is, and lives -/
def EnSt (h : Heap) (e it S : Addr) (i : Nat) : Prop := (∃ old, IsEnum h e it i old) ∨ ∃ old T f oT, IsEnumHeld h e it i old T f ∧ h.get? T = some oT ∧ T ≠ e ∧ T ≠ it ∧ T ≠ S
theorem EnSt.keep {h h' : Heap} {e it S : Addr} {i : Nat} (x : EnSt h e it S i) (hk : ∀ b o, b ≠ S → h.get? b = some o → h'.get? b = some o) (hS : e ≠ S) : EnSt h' e it S i := by
  rcases x with ⟨old, he⟩ | ⟨old, T, f, oT, he, hT, h1, h2, h3⟩
  · exact .inl ⟨old, hk _ _ hS he⟩
  · exact .inr ⟨old, T, f, oT, hk _ _ hS he, hk _ _ h3 hT, h1, h2, h3⟩
/-- the tuples that were laid -/
structure EnG (P : Nat → Value → Prop) (lo : Addr) (h : Heap) (as : List Addr) : Prop where
  rise : as.Pairwise (· < ·)
  above : ∀ a ∈ as, lo < a
  pairs : ∀ (j : Nat) (a : Addr), as[j]? = some a → ∃ t x, P j x ∧ h.get? a = some { cls := .type "tuple", data := .seq #[.int j t, x] }
theorem EnG.there {P : Nat → Value → Prop} {lo : Addr} {h : Heap} {as : List Addr} (g : EnG P lo h as) {a : Addr} (ha : a ∈ as) : a < h.objs.size := by
  obtain ⟨j, hj⟩ := List.mem_iff_getElem?.mp ha
  obtain ⟨_, _, _, e⟩ := g.pairs j a hj
  exact Heap.lt_size e
end
section
variable {prog : Program} {w : World} {A : Around} {s : Shared} {R : Result → Shared → Prop} {n : Nat} {P : Nat → Value → Prop} {St : Nat → Heap → Prop} {fp : List Addr}
end
section
variable {prog : Program} {w : World} {A : Around} {E : Value → Shared → Prop} {s : Shared} {n : Nat} {P : Nat → Value → Prop} {St : Nat → Heap → Prop} {fp : List Addr} {e it : Addr}
end
/-! ### tracked -/
def putU : Hp → List Addr → List (List V) → Hp
  | H, a :: as, p :: vs => putU (upd H a (.tup p)) as vs
  | H, _, _ => H
def enV (xs : List V) : List (List V) := (List.range xs.length).zipWith (fun (k : Nat) x => [V.int k, x]) xs
def tListEn (K : Frag) (ta : TA) : TE := fun σ H Q => ta σ H fun vs H1 => ∃ sd a xs, vs = [.ref a] ∧ SqB K sd H1 a xs ∧ xs.length ≤ sizeLine ∧
  ∀ (p : Addr) (as : List Addr), as.length = xs.length → as.Nodup → H1 p = none → (∀ t ∈ as, H1 t = none) → p ∉ as → Q (.ref p) (putU (upd H1 p (.lst (as.map V.ref))) as (enV xs))
section
variable {X : Cx} {e : Expr} {ta : TA} {p p2 pos pos2 : Pos}
end
def dListEn (ds : List D) : Option D := (d1Sq ds).bind fun es => if es.length ≤ sizeLine then some (.lst (enD es)) else none
section
variable {X : Cx} {S : Sg} {Γ : List Kd}
end
/-! ### a keyword with a default left out, no other defaults -/
end G
/-! G63: a comprehension over one's own list that nothing in it changes. -/
namespace G
open PySem PySem.Spec PyProof.Rows L2
/-- the mirror leaves the slot as it is -/
def KpB {α : Type} (i : Nat) (m : M α) : Prop := ∀ ρ d ρ', m ρ = .ok d ρ' → ρ'[i]? = ρ[i]?
def KpG (i : Nat) (g : MG) : Prop := ∀ d ρ ρ', g d ρ = some ρ' → ρ'[i]? = ρ[i]?
def KpGs (i : Nat) (g : MGs) : Prop := ∀ d ρ ρ', g d ρ = some ρ' → ρ'[i]? = ρ[i]?
section
variable {α β : Type} {i : Nat}
theorem kb_ret {a : α} : KpB i (M.ret a) := fun ρ d ρ' h => by cases h; rfl
theorem kb_opt {o : Option α} : KpB i (M.opt o) := fun ρ d ρ' h => by
  cases o with
  | none => cases h
  | some a => cases h; rfl
theorem kb_bind {m : M α} {f : α → M β} (h1 : KpB i m) (h2 : ∀ a, KpB i (f a)) : KpB i (m.bind f) := fun ρ d ρ' h => by
  unfold M.bind at h
  cases e : m ρ with
  | no => rw [e] at h; cases h
  | er x ρ1 => rw [e] at h; cases h
  | ok a ρ1 => rw [e] at h; rw [h2 a _ _ _ h, h1 _ _ _ e]
theorem kb_v {j : Nat} : KpB i (mV j) := fun ρ d ρ' h => by
  unfold mV at h
  split at h
  · cases h; rfl
  · cases h
theorem kb_c {d : D} : KpB i (mC d) := kb_ret
theorem kb_yes : KpB i mYes := kb_ret
theorem kb_2 {f : D → D → Option D} {a b : M D} (h1 : KpB i a) (h2 : KpB i b) : KpB i (m2 f a b) := kb_bind h1 fun _ => kb_bind h2 fun _ => kb_opt
theorem kb_1 {f : D → Option D} {a : M D} (h1 : KpB i a) : KpB i (m1 f a) := kb_bind h1 fun _ => kb_opt
theorem kb_t {a : M D} (h1 : KpB i a) : KpB i (mT a) := kb_bind h1 fun _ => kb_opt
theorem kb_b {a : M D} (h1 : KpB i a) : KpB i (mB a) := kb_bind h1 fun _ => kb_opt
theorem kb_not {a : M Bool} (h1 : KpB i a) : KpB i (mNot a) := kb_bind h1 fun _ => kb_ret
theorem kb_and {a b : M Bool} (h1 : KpB i a) (h2 : KpB i b) : KpB i (mAnd a b) := kb_bind h1 fun c => by
  cases c
  · exact kb_ret
  · exact h2
theorem kb_or {a b : M Bool} (h1 : KpB i a) (h2 : KpB i b) : KpB i (mOr a b) := kb_bind h1 fun c => by
  cases c
  · exact h2
  · exact kb_ret
theorem kb_nil : KpB i mNil := kb_ret
theorem kb_cons {a : M D} {b : M (List D)} (h1 : KpB i a) (h2 : KpB i b) : KpB i (mCons a b) := kb_bind h1 fun _ => kb_bind h2 fun _ => kb_ret
theorem kb_tup {a : M (List D)} (h1 : KpB i a) : KpB i (mTup a) := kb_bind h1 fun _ => kb_opt
theorem kg_n {j : Nat} (h : j ≠ i) : KpG i (gN j) := fun d ρ ρ' e => by cases e; exact List.getElem?_set_ne h
theorem ks_nil : KpGs i gE := fun d ρ ρ' e => by
  unfold gE at e
  split at e
  · cases e; rfl
  · cases e
theorem ks_cons {g : MG} {gs : MGs} (h1 : KpG i g) (h2 : KpGs i gs) : KpGs i (gC g gs) := fun d ρ ρ' e => by
  unfold gC at e
  split at e
  · obtain ⟨ρ1, e1, e2⟩ := Option.bind_eq_some_iff.mp e
    rw [h2 _ _ _ e2, h1 _ _ _ e1]
  · cases e
theorem kg_t {n : Nat} {gs : MGs} (h : KpGs i gs) : KpG i (gT n gs) := fun d ρ ρ' e => by
  unfold gT at e
  split at e
  · split at e
    · exact h _ _ _ e
    · cases e
  · cases e
end
/-- slot i's own list, turned by f -/
def mOw (i : Nat) (f : List D → List D) : M (List D) := fun ρ => match ρ[i]? with
  | some (some (.lst xs)) => .ok (f xs) ρ
  | _ => .no
def OwOk (K : Frag) (ct : Ct) (xs ds : List D) (a : Addr) (J : It) : Prop := ∀ (F2 H : Hp) (i : Nat) (us : List V), Same F2 H → H a = some (.lst us) → RpL K ct F2 xs us →
  (i = ds.length → J.stop i H) ∧ ∀ d, ds[i]? = some d → J.go i H ∧ ∀ x H', J.yld i H x H' → ∃ F', Gw F2 H F' H' ∧ Rp K ct F' d x
theorem owOk_id {K : Frag} {ct : Ct} {xs : List D} {a : Addr} : OwOk K ct xs xs a (Itq K .l a) := fun F2 H i us s2 ha r2 => by
  have q2 : SqL K H a us := SqL.of ha
  refine ⟨fun e => ⟨us, q2, by rw [e, r2.length]; exact Nat.le_refl _⟩, fun d e => ?_⟩
  obtain ⟨v, e1, e2⟩ := r2.get e
  refine ⟨⟨us, v, q2, e1⟩, fun x H' y => ?_⟩
  obtain ⟨eh, y⟩ := y
  subst eh
  have := y us q2
  rw [e1] at this
  cases this
  exact ⟨F2, .same, e2⟩
theorem tr_lcW {S : Sg} {Γ : List Kd} {vs is : List Nat} {g : MG} {t : M Bool} {e : M D} {w : Nat} {k : Kd} {f : List D → List D} {J0 : Addr → It} {wi : TI} (hk : Γ[w]? = some k) (hn : k ≠ .fz) (hJ : ∀ xs a, OwOk S.C.K S.C.ct xs (f xs) a (J0 a))
    (hwi : ∀ (σ : L2.St) H R a us, σ[w]? = some (some (.ref a)) → H a = some (.lst us) → R (J0 a) H → wi σ H R) (kg : KpG w g) (kt : KpB w t) (ke : KpB w e)
    (hv : fzAll Γ vs = true) (hi : ∀ i ∈ is, i ∈ vs) {σ : L2.St} {H : Hp} {Q : VK} (h : Tr S Γ (rO S) (mLc vs (mOw w f) g t e) σ H Q) :
    tLc wi (TgT S.bk Γ Γ is g) (Tr S.bk Γ rB t) (Tr S.bk Γ (rD S.bk) e) vs σ H Q := by
  have hwv : w ∉ vs := io_out hv hk hn
  obtain ⟨F1, ρ1, rs1, h⟩ := h
  unfold mLc M.bind mOw at h
  cases e0 : ρ1[w]? with
  | none => rw [e0] at h; exact h.elim
  | some y0 =>
  cases y0 with
  | none => rw [e0] at h; exact h.elim
  | some d0 =>
  rw [e0] at h
  cases d0 <;> try exact h.elim
  rename_i xs
  simp only at h
  obtain ⟨a, o, w1, w2, w3, w4, _⟩ := rs1.ow w _ k hk hn e0
  obtain ⟨us, rfl, w5⟩ := owo_lst w4
  refine hwi σ H _ a us w1 w3 ?_
  generalize hds : f xs = ds at h
  generalize hH : H = H1 at *
  intro L hL
  have hF1 : F1 L = none := rs1.sub.free hL
  cases eg : lcG vs g t e [] ds ρ1 with
  | no => unfold lcA at h; rw [eg] at h; exact h.elim
  | er x ρ' => unfold lcA at h; rw [eg] at h; exact h.elim
  | ok r ρe =>
    have h : ∀ v F' H', RS S.C Γ F' (rsE ρe ρ1 vs) σ H' → Ext (Own Γ σ) F1 H1 F' H' → rO S H1 F' H' (.lst r) v → Q v H' := by
      have h2 := h
      unfold lcA at h2
      rw [eg] at h2
      exact h2
    refine ⟨fun i m H => ∃ F2 ρ2 acc av, Same F1 F2 ∧ RS S.C Γ F2 (wpE ρ2 vs) (wipe σ vs) H ∧ Ext (fun b => Own Γ σ b ∨ b = L) F1 (upd H1 L (.lst [])) F2 H ∧ H L = some (.lst av) ∧ F2 L = none ∧ RpL S.C.K S.C.ct F2 acc av ∧ i ≤ ds.length ∧ m = ds.length - i ∧ lcG vs g t e acc (ds.drop i) ρ2 = .ok r ρe ∧ ρ2[w]? = some (some (.lst xs)),
      ⟨ds.length, F1, ρ1, [], [], Same.refl _, (rs1.newH hL).wipe hv, Ext.refl, upd_same, hF1, rpl_nil.mpr rfl, Nat.zero_le _, by simp, by simpa using eg, e0⟩, ?_⟩
    rintro i m H ⟨F2, ρ2, acc, av, sm, rs2, x2, hl, hF2, ra, hle, rfl, eq, ew⟩
    obtain ⟨a2, o2, z1, _, z3, z4, _⟩ := rs2.ow w _ k hk hn (by rw [wpE_out hwv]; exact ew)
    rw [wp_out hwv, w1] at z1
    cases z1
    obtain ⟨us2, rfl, z5⟩ := owo_lst z4
    have it := hJ xs a F2 H i us2 rs2.sub z3 z5
    rw [hds] at it
    have nO : ¬ Own Γ σ L := fun z => by
      obtain ⟨_, o, e⟩ := rs1.own_some z
      rw [hL] at e; cases e
    by_cases hlt : i < ds.length
    · refine .inr ?_
      have hd : ds[i]? = some ds[i] := List.getElem?_eq_getElem hlt
      obtain ⟨go, yl⟩ := it.2 _ hd
      rw [List.drop_eq_getElem_cons hlt] at eq
      obtain ⟨z, ρ9, eT, zn, zs⟩ := lcG_inv eq
      obtain ⟨ρ3, b, ρ4, e1, e2, e3⟩ := lcT_inv eT
      have ew3 : ρ3[w]? = some (some (.lst xs)) := by rw [kg _ _ _ e1, wpE_out hwv]; exact ew
      have ew4 : ρ4[w]? = some (some (.lst xs)) := by rw [kt _ _ _ e2]; exact ew3
      refine ⟨go, fun H' => ∃ F3 ρ3 acc' av', Same F2 F3 ∧ RS S.C Γ F3 (wpE ρ3 vs) (wipe σ vs) H' ∧ Ext (fun b => Own Γ σ b ∨ b = L) F2 H F3 H' ∧ H' L = some (.lst av') ∧ F3 L = none ∧ RpL S.C.K S.C.ct F3 acc' av' ∧ lcG vs g t e acc' (ds.drop (i + 1)) ρ3 = .ok r ρe ∧ ρ3[w]? = some (some (.lst xs)),
        fun H' ⟨F3, ρ3, acc', av', s3, rs3, x3, hl3, hF3, ra3, e3, ew3⟩ => ⟨ds.length - (i + 1), by omega, F3, ρ3, acc', av', sm.trans s3, rs3, x2.trans x3, hl3, hF3, ra3, hlt, rfl, e3, ew3⟩, fun x H' y => ?_⟩
      obtain ⟨F3, gw, rp⟩ := yl x H' y
      have st3 : RS S.C Γ F3 (wpE ρ2 vs) (wipe σ vs) H' ∧ Ext (fun b => Own Γ σ b ∨ b = L) F2 H F3 H' ∧ H' L = some (.lst av) ∧ F3 L = none := by
        cases gw with
        | same => exact ⟨rs2, Ext.refl, hl, hF2⟩
        | new hp =>
          have np : L ≠ _ := ne_of_none hl hp
          exact ⟨rs2.newF hp, Ext.newF rs2.sub hp, by rw [upd_ne np]; exact hl, by rw [upd_ne np]; exact hF2⟩
      obtain ⟨rs3, x3, hl3, hF3⟩ := st3
      refine ⟨F3, wpE ρ2 vs, ds[i], ρ3, rs3, rp, e1, fun σ3 o3 rs4 => ?_⟩
      have w3 : wipe σ3 vs = wipe σ vs := (wipe_only o3 hi).trans (wipe_only only_wipe fun _ z => z)
      refine ⟨w3, F3, ρ3, rs4, ?_⟩
      have own3 : ∀ {b}, Own Γ σ3 b → Own Γ σ b := fun {b} z => by
        have z1 := (own_wipe (vs := vs) hv).mpr z
        rw [w3] at z1
        exact (own_wipe hv).mp z1
      have back : ∀ {F4 ρ4 H4}, RS S.C Γ F4 ρ4 σ3 H4 → RS S.C Γ F4 (wpE ρ4 vs) (wipe σ vs) H4 := fun {F4 ρ4 H4} z => by
        have := z.wipe (vs := vs) hv
        rwa [w3] at this
      have free : ∀ {F4 H4 F5 H5}, Ext (Own Γ σ3) F4 H4 F5 H5 → H4 L = some (.lst av) → F4 L = none → Ext (fun b => Own Γ σ b ∨ b = L) F4 H4 F5 H5 ∧ H5 L = some (.lst av) ∧ F5 L = none := fun {F4 H4 F5 H5} x4 q1 q2 => by
        refine ⟨x4.sub fun c z => .inl (.inl (own3 z)), x4.h L _ q1 fun z => nO (own3 z), ?_⟩
        cases ef : F5 L with
        | none => rfl
        | some o =>
          rcases x4.g L (by rw [ef]; simp) with z | z
          · exact absurd q2 z
          · rw [q1] at z; cases z
      rw [e2]
      intro v F4 H4 rs5 x4 qb
      cases (show b = v from qb)
      obtain ⟨x4', hl4, hF4⟩ := free x4 hl3 hF3
      rcases e3 with ⟨rfl, rfl, rfl⟩ | ⟨rfl, yy, e3, rfl⟩
      · exact iteF ⟨F4, ρ9, acc, av, x3.f.trans x4.f, back rs5, x3.trans x4', hl4, hF4, ra.mono (x3.f.trans x4.f), zn rfl, ew4⟩
      · refine iteT ⟨F4, ρ4, rs5, ?_⟩
        rw [e3]
        intro v F5 H5 rs6 x5 qd
        obtain ⟨x5', hl5, hF5⟩ := free x5 hl4 hF4
        obtain ⟨hz, eq2⟩ := zs yy rfl
        have ra5 := ra.mono ((x3.f.trans x4.f).trans x5.f)
        have h0 : S.C.H0 L = none := by
          cases e0 : S.C.H0 L with
          | none => rfl
          | some y => exact absurd hL (rs1.ext.n L (by rw [e0]; simp))
        exact ⟨av, hl5, by rw [← ra.length]; exact hz, F5, ρ9, acc ++ [yy], av ++ [v], (x3.f.trans x4.f).trans x5.f, (back rs6).wrNew h0 (by rw [hl5]; simp) hF5 (fun z => nO ((own_wipe hv).mp z)), (x3.trans (x4'.trans x5')).trans (Ext.wr (.inr rfl)), upd_same, hF5, ra5.append (.one qd), eq2, by rw [ke _ _ _ e3]; exact ew4⟩
    · have e0 : i = ds.length := by omega
      refine .inl ⟨it.1 e0, ?_⟩
      subst e0
      rw [List.drop_length] at eq
      unfold lcG at eq
      cases eq
      refine h _ F2 H (rs1.back sm rs2 hv) ?_ ⟨L, _, rfl, hL, hF2, hl, .lst ra⟩
      have y1 : Ext (fun b => Own Γ σ b ∨ b = L) F1 H1 F2 H := (Ext.newH hL).trans x2
      exact y1.sub fun c z => z.elim .inl fun z => .inr (by rw [z]; exact hL)
section
variable {X : Cx} {S : Sg} {Γ : List Kd} {pos : Pos}
end
end G
/-! G64: xs[j] op= e, xs a slot's own list, j a frozen name. -/
namespace G
open PySem PySem.Spec PyProof.Rows L2
section
variable {X : Cx} {S : Sg} {Γ : List Kd}
end
end G
/-! G65: min of a dict whose keys are whole numbers. -/
namespace PySem.W
open PySem PySem.Spec
section
variable {prog : Program} {w : World} {A : Around} {E : Value → Shared → Prop} {s : Shared} {K : Type} [DecidableEq K] {knd : KeyKind prog w K}
end
end PySem.W
namespace G
open PySem PySem.Spec PyProof.Rows L2
def dMinD : List D → Option D
  | [.dct ks _] => (kyO ks).bind fun kk => (intsK kk).bind fun ns => match ns with
    | n :: r => some (.int (minL n r))
    | [] => none
  | _ => none
end G
/-! G66: a pair is handed out whose first is one's own list. -/
namespace G
open PySem PySem.Spec PyProof.Rows L2
/-- (slot i's own, m2), slot i read late -/
def mPrL (i : Nat) (m2 : M D) : M D := (mV i).bind fun _ => m2.bind fun y => (mV i).bind fun x => M.ret (.tup [x, y])
section
variable {X : Cx} {S : Sg} {Γ Γ' : List Kd} {pos : Pos}
variable {cn : Bool} {k : Nat} {f : Addr} {fd : FuncData} {ps : List Str} {x : Str} {p : Pos} {e : Expr} {es : List Expr} {ks : List Kd} {MF : MFn} {sh : List Ah} {ma : M (List D)}
end
end G
/-! G67: texts: split, int(text), a module's text; x, *rest = a list. -/
namespace G
open PySem PySem.Spec PyProof.Rows L2
/-! ### a module's text -/
theorem HyG.str_ {fa : List He.Fa} {fn : List He.DefD} {ex : Frag → Bool} {K : Frag} {mg : Str → Option Value} {h : Heap} (y : HyG fa fn ex K mg h) (i : Nat) {x z : Str} (e : fa[i]? = some (.str x z) := by rfl) : ∃ t, mg x = some (.str z t) := He.str_ok y.kx y.ns (y.says.fact i e)
section
variable {X : Cx} {S : Sg} {Γ Γ' Γ1 : List Kd} {pos : Pos} {K : Frag} {ct : Ct}
theorem e_gstr {x z : Str} (hm : ∃ t, X.mg x = some (.str z t)) (hg : Gl X x := by rfl) (hdb : (x == ("__debug__" : Str)) = false := by decide) : EvE X S Γ (.Name x pos) (mC (.str z)) := by
  obtain ⟨t, hm⟩ := hm
  have h : PE X (.Name x pos) (tC (.str z)) := ⟨fun pins s σ H Q I q => ld_glob I hg hm ⟨.str z, H, I, ⟨t, rfl⟩, q⟩ hdb⟩
  exact e_c h fun _ => rp_str.mpr rfl
/-! ### split -/
def dSpl : D → D → Option D
  | .str a, .str b => if (b.length == 0) = false ∧ a.length + 2 ≤ sizeLine then some (.lst ((Txt.split a b).map D.str)) else none
  | _, _ => none
def isStrD : D → Bool
  | .str _ => true
  | _ => false
def mSpl (a b : M D) : M D := a.bind fun x => if isStrD x = true then b.bind fun y => M.opt (dSpl x y) else M.opt none
theorem rplSs {F : Hp} : ∀ {xs : List Str}, RpL K ct F (xs.map D.str) (xs.map V.str)
  | [] => rpl_nil.mpr rfl
  | x :: xs => rpl_cons.mpr ⟨_, _, rfl, rp_str.mpr rfl, rplSs⟩
theorem e_split {o e : Expr} {mo me : M D} {apos : Pos} (ho : EvE X S Γ o mo) (he : EvE X S Γ e me) (hs : starEach [e] X.env = [(false, eval e X.env)] := by rfl) (hbase : attributeBase o "split" X.env (eval o X.env) = eval o X.env := by rfl) (hline : (apos.endLine == pos.line) = true := by rfl) :
    EvE X S Γ (.Call (.Attribute o "split" apos) [e] [] pos) (mSpl mo me) := pe_imp (pe_split ho he hs hbase hline) fun σ H Q q => by
  refine (Tr.bind (R1 := rD S) rD_late q).mono fun v H1 ⟨d, F1, r, q⟩ => ?_
  have r : Rp S.C.K S.C.ct F1 d v := r
  cases d with
  | str a =>
    refine ⟨⟨a, rp_str.mp r⟩, F1, (TrF.bind (R1 := rD S) rD_late q).mono fun w H2 ⟨d2, F2, r2, x2, q⟩ => ?_⟩
    obtain ⟨z, e1, hs, k⟩ := q.opt1
    have r2 : Rp S.C.K S.C.ct F2 d2 w := r2
    cases d2 with
    | str b =>
      simp only [dSpl] at e1
      split at e1
      · rename_i hb
        cases e1
        exact ⟨a, b, rp_str.mp r, by rw [rp_str.mp r2], hb.1, hb.2, fun p hp => k _ p _ hp (rp_lst.mpr ⟨p, _, rfl, upd_same, rplSs⟩)⟩
      · cases e1
    | _ => simp [dSpl] at e1
  | _ =>
    obtain ⟨ρ, rs, h⟩ := q
    exact (show False from h).elim
/-! ### int(text) -/
def dIntX : List D → Option D
  | [.str a] => (PySem.intText? a).bind fun n => if a.length ≤ 640 then some (.int n) else none
  | _ => none
theorem b_intX : Bi X K ct (.type "int") dIntX := ⟨_, call_int_str, by
  intro F H ds d vs Q hs r e q
  unfold dIntX at e
  split at e
  · rename_i a
    obtain ⟨n, e1, e2⟩ := Option.bind_eq_some_iff.mp e
    split at e2
    · rename_i hl
      cases e2
      obtain ⟨v, rfl, r1⟩ := rvl_one r
      exact ⟨a, n, by rw [rv_str.mp r1], e1, hl, q _ _ _ .same (rp_int.mpr rfl)⟩
    · cases e2
  · cases e⟩
end
/-! ### x, *rest = a list -/
section
variable {prog : Program} {w : World} {A : Around} {E : Value → Shared → Prop} {s : Shared}
theorem star_list {l : Addr} {u0 : Value} {us : List Value} {Q : List Value → Shared → Prop} (hl : s.heap.IsList l (u0 :: us).toArray) (hh : A.handled = none) (hz : us.length + 1 ≤ sizeLine)
    (h : ∀ (h₂ : Heap) (tk : Nat), (∀ b o, s.heap.get? b = some o → h₂.get? b = some o) → Q [u0, .ref h₂.objs.size] { s with heap := h₂.push { cls := .type "list", data := .seq us.toArray }, toks := tk }) : wpAny (model prog w) A (unpackItems (.ref l) 2 (some 1)) Q E s := by
  have hlt : l ≠ s.heap.objs.size := by obtain ⟨o, ho, _⟩ := hl; exact Nat.ne_of_lt (Heap.lt_size ho)
  have hsz : (u0 :: us).toArray.size = us.length + 1 := by simp
  unfold unpackItems
  refine wpAny_bind ?_
  unfold notIterableAtAll
  refine wpAny_bind (wpAny_specialOf hl.typeIs slot_list_iter.lookup ?_)
  refine wpAny_pure ?_
  simp only [Bool.false_eq_true, if_false]
  refine wpAny_bind (wpAny_holding (wpAny_pyIter_list hl ?_))
  refine wpAny_bind (wpAny_holding (PySem.W.kun_draw hlt 1 0 _ _ ⟨_, Heap.get?_push_size _ rfl, rfl, rfl⟩ (hl.push _) (by omega) fun h₁ hit₁ hs₁ => ?_))
  have hl₁ : h₁.IsList l (u0 :: us).toArray := (hl.push _).extBut hs₁.extBut hlt
  rw [Nat.zero_add] at hit₁
  have hit₁' := hit₁
  obtain ⟨oi, hoi, _⟩ := hit₁'
  have hl₁' := hl₁
  obtain ⟨ol, hol, _⟩ := hl₁'
  have e1 : List.take 1 (List.drop 0 (u0 :: us).toArray.toList) = [u0] := rfl
  rw [e1]
  rw [if_neg (show ¬ (([u0] : List Value).length < 1) by simp)]
  refine wpAny_bind (wpAny_holding (PySem.W.kun_collect (s := { s with heap := h₁ }) (T := "list_iterator") (.inr (.inr (.inl rfl))) (Walks.list (A := A.in1) hh s.heap.objs.size l hlt (u0 :: us).toArray) (fun j u st => st.1.typeIs) (k := 1) (by omega) ⟨hit₁, hl₁⟩ (Heap.lt_size hoi) (Heap.lt_size hol) (fun h₂ tk hk => ?_) (by omega)))
  have e2 : List.drop 1 (u0 :: us).toArray.toList = us := rfl
  rw [e2]
  show wpAny _ _ (if us.length < 2 - 1 - 1 then _ else _) _ _ _
  rw [if_neg (by omega)]
  show wpAny _ _ (newList (us.take (us.length - (2 - 1 - 1))) >>= fun d => pure ([u0] ++ [d] ++ us.drop (us.length - (2 - 1 - 1)))) _ _ _
  have e3 : us.take (us.length - (2 - 1 - 1)) = us := by simp
  have e4 : us.drop (us.length - (2 - 1 - 1)) = [] := by simp
  rw [e3, e4]
  refine wpAny_bind (wpAny_newList ?_ (by omega))
  exact wpAny_pure (h h₂ tk fun b o e => hk b o (Nat.ne_of_lt (Heap.lt_size e)) (hs₁.extBut b o (Nat.ne_of_lt (Heap.lt_size e)) (Heap.get?_push_of_some _ e)))
end
def tgStar (K : Frag) (t : TGs) : TG := fun v σ H Q => ∃ a x xs, v = .ref a ∧ SqL K H a (x :: xs) ∧ ∀ p, H p = none → t [x, .ref p] σ (upd H p (.lst xs)) Q
section
variable {X : Cx} {S : Sg} {Γ Γ' Γ1 : List Kd} {pos : Pos}
theorem pg_star {e1 e2 : Expr} {sp tpos : Pos} {kk : Nat} {t : TGs} (hc : X.calm = true) (h : PGs X [e1, e2] t) (hn : (assignEach [e1, .Starred e2 sp] X.env).length = 2 := by rfl) (hst : (assignEach [e1, .Starred e2 sp] X.env).findIdx? (·.1) = some 1 := by rfl)
    (hm : (assignEach [e1, .Starred e2 sp] X.env).map (·.2) = (assignEach [e1, e2] X.env).map (·.2) := by rfl) : PG X (.Tuple [e1, .Starred e2 sp] kk tpos) (tgStar X.K t) := by
  refine ⟨fun pins s σ H v u Q I r hw => ?_⟩
  obtain ⟨a, x, xs, e1, hq, hw⟩ := hw
  subst e1
  cases r
  obtain ⟨its, rv, pl, hz⟩ := I.list hq
  cases rv with
  | cons rx rr =>
    rename_i u0 us
    rw [assign_Tuple]
    refine wpAny_bind (wpAny_standAt ?_)
    unfold unpack
    rw [hn, hst, hm]
    have hlen := rr.length
    refine wpAny_bind (wpAny_holding (star_list pl.isList (I.ok.hd hc) (by simp only [List.length_cons] at hz; omega) fun h₂ tk hk => ?_))
    have I1 : Inv X pins σ H { s with heap := h₂, toks := tk } := I.kept hk
    have hD : H h₂.objs.size = none := I1.hok.fresh (Nat.le_refl _)
    have hoL : (h₂.push { cls := .type "list", data := .seq us.toArray }).get? h₂.objs.size = some { cls := .type "list", data := .seq us.toArray } := Heap.get?_push_size _ rfl
    have I2 : Inv X pins σ (upd H h₂.objs.size (.lst xs)) { s with heap := h₂.push { cls := .type "list", data := .seq us.toArray }, toks := tk } :=
      I1.laid (t' := tk) (fun b u e => Heap.get?_push_of_some _ e) (Nat.le_refl _) ⟨by simp only [List.length_cons] at hz; omega, us, 0, rr, hoL⟩
    exact h.run pins _ σ _ [x, .ref h₂.objs.size] [u0, .ref h₂.objs.size] Q I2 (.cons rx (.cons rfl .nil)) (hw _ hD)
def gStar (i j : Nat) : MG := fun d ρ => match d with
  | .lst (x :: xs) => some ((ρ.set i (some x)).set j (some (.lst xs)))
  | _ => none
theorem gw_star {i j : Nat} {x y : Str} {px py sp tpos : Pos} {kk : Nat} (hc : X.calm = true) (hN : X.N.Nodup) (hi : X.N[i]? = some x) (hj : X.N[j]? = some y) (hx : Loc X.env.scope x) (hy : Loc X.env.scope y)
    (hfx : X.fn x = true ∨ X.env.scope.names.lookup x = some .local) (hfy : X.fn y = true ∨ X.env.scope.names.lookup y = some .local) (hki : ∃ k, Γ[i]? = some k ∧ k ≠ .io) (hkj : ∃ k, (Γ.set i .fz)[j]? = some k ∧ k ≠ .io) (hK : S.C.K = X.K := by rfl)
    (ha1 : (assignEach [.Name x px, .Name y py] X.env).map (·.2) = assign (.Name x px) X.env :: (assignEach [.Name y py] X.env).map (·.2) := by rfl) (ha2 : (assignEach [.Name y py] X.env).map (·.2) = assign (.Name y py) X.env :: (assignEach [] X.env).map (·.2) := by rfl)
    (hn : (assignEach [.Name x px, .Starred (.Name y py) sp] X.env).length = 2 := by rfl) (hst : (assignEach [.Name x px, .Starred (.Name y py) sp] X.env).findIdx? (·.1) = some 1 := by rfl)
    (hm : (assignEach [.Name x px, .Starred (.Name y py) sp] X.env).map (·.2) = (assignEach [.Name x px, .Name y py] X.env).map (·.2) := by rfl) :
    EvGW X S Γ ((Γ.set i .fz).set j .fz) (.Tuple [.Name x px, .Starred (.Name y py) sp] kk tpos) (gStar i j) :=
  pg_imp (pg_star hc (pgs_cons (pg_name hN hi hx hfx) (pgs_cons (pg_name hN hj hy hfy) pgs_nil ha2) ha1) hn hst hm) fun v σ H Q ⟨F, ρ, d, ρ', rs, r, e, q⟩ => by
    have hd : ∃ d0 ds, d = .lst (d0 :: ds) ∧ ρ' = (ρ.set i (some d0)).set j (some (.lst ds)) := by
      unfold gStar at e
      split at e
      · cases e; exact ⟨_, _, rfl, rfl⟩
      · cases e
    obtain ⟨d0, ds, rfl, rfl⟩ := hd
    obtain ⟨a, vs, rfl, h1, h2⟩ := rp_lst.mp r
    obtain ⟨v0, vr, rfl, h3, h4⟩ := rpl_cons.mp h2
    refine ⟨a, v0, vr, rfl, by rw [← hK]; exact same_l rs.sub (SqL.of h1), fun p hp => ?_⟩
    have fp := rs.sub.free hp
    have sm : Same F (upd F p (.lst vr)) := same_updF fp
    have rs1 := rs.newF (o := .lst vr) hp
    refine ⟨_, [_], rfl, _, [], rfl, rfl, q _ (upd F p (.lst vr)) _ sm ?_⟩
    exact (rs1.setF hki (h3.mono sm)).setF hkj (rp_lst.mpr ⟨p, vr, rfl, upd_same, h4.mono sm⟩)
end
end G
/-! G68: name = [.. for .. in one's own list]. -/
namespace G
open PySem PySem.Spec PyProof.Rows L2
section
variable {X : Cx} {S : Sg} {Γ : List Kd} {pos : Pos}
theorem s_setLcW {i w : Nat} {k : Kd} {y : Str} {py spos : Pos} {elt tg iter : Expr} {ifs : List Expr} {scope : Scope} {own : List (Str × Nat)} {g : MG} {t : M Bool} {e : M D} {is : List Nat} (hc : X.calm = true) (hN : X.N.Nodup) (hy : X.N[i]? = some y) (hyl : X.env.scope.names.lookup y = some .local)
    (hsw : swapsWith (.ListComp elt [⟨tg, iter, ifs, 0⟩] scope pos) (some (.Name y py)) spos.line X.env = pure true) (hki : ∃ k, Γ[i]? = some k ∧ k ≠ .io) (hi : PE X iter (tVar w)) (ok : blkC X.N X.env.scope scope own = true)
    (hg : ∀ (s : Shared) (H : Hp) (C : Addr) (cl : List (Str × Addr)) (fp : List Addr), EvG (X.blk s H scope (compEnvC scope cl C X.env) fp) S.bk Γ Γ is tg g) (ht : ∀ (s : Shared) (H : Hp) (C : Addr) (cl : List (Str × Addr)) (fp : List Addr), EvTs (X.blk s H scope (compEnvC scope cl C X.env) fp) S.bk Γ ifs t)
    (he : ∀ (s : Shared) (H : Hp) (C : Addr) (cl : List (Str × Addr)) (fp : List Addr), EvE (X.blk s H scope (compEnvC scope cl C X.env) fp) S.bk Γ elt e) (hk : Γ[w]? = some k) (hn : k ≠ .fz) (kg : KpG w g) (kt : KpB w t) (ke : KpB w e) (hK : S.C.K = X.K := by rfl)
    (hv : fzAll Γ (own.map (·.2)) = true := by rfl) (hI : ∀ i ∈ is, i ∈ own.map (·.2) := by decide) (hs : ∀ x, foldedSetIterable iter X.env x = pure x := by intro _; rfl) :
    EvS X S Γ (Γ.set i .ow) (.Assign [.Name y py] (.ListComp elt [⟨tg, iter, ifs, 0⟩] scope pos) spos) (mSet i (mLc (own.map (·.2)) (mOw w id) g t e)) :=
  ps_imp (ps_setLc hc hN hy hyl hsw (pi_any hi) (blkOk_by ok) hg ht he hs) fun D σ H h => by
    obtain ⟨F, ρ, rs0, h⟩ := h
    refine tr_lcW (f := id) (J0 := Itq X.K .l) hk hn (fun xs a => by rw [← hK]; exact owOk_id) (fun σ H R a us h1 h2 h3 => ⟨.ref a, h1, .inl ⟨.l, a, rfl, ⟨us, SqL.of h2⟩, h3⟩⟩) kg kt ke hv hI ⟨F, (TsF.of (R := rO S) rs0 h).mono fun v H1 ⟨d, F1, ρ1, q, x1, rs, h⟩ => ?_⟩
    obtain ⟨a, o, rfl, h1, h2, h3, h4⟩ := q
    refine h _ F1 H1 (Same.refl _) (rs.setO hki h4 h2 h3 ?_ ?_)
    · cases e0 : S.C.H0 a with
      | none => rfl
      | some y => exact absurd h1 (rs0.ext.n a (by rw [e0]; simp))
    · intro z
      obtain ⟨_, o', z⟩ := rs0.own_some z
      rw [h1] at z
      cases z
end
end G
/-! P0: reckoning with mirrors: loops and comprehensions. -/
namespace G
open PySem PySem.Spec PyProof.Rows L2
theorem lcT_cong {vs : List Nat} {g : MG} {t : M Bool} {e : M D} {d : D} {ρ ρ' : Env} (h : wpE ρ vs = wpE ρ' vs) : lcT vs g t e d ρ = lcT vs g t e d ρ' := by
  unfold lcT
  rw [h]
theorem rsE_back {ρ ρ' : Env} : ∀ {vs : List Nat}, wpE ρ' vs = wpE ρ vs → rsE ρ' ρ vs = ρ := by
  intro vs h
  have key : ∀ (us : List Nat) (i : Nat), (rsE ρ' ρ us)[i]? = if i ∈ us then (if i < ρ'.length then some (ρ[i]?.getD none) else none) else ρ'[i]? := by
    intro us
    induction us with
    | nil => intro i; simp [rsE]
    | cons v us ih =>
      intro i
      unfold rsE
      by_cases e : v = i
      · subst e
        simp only [List.mem_cons, true_or, if_true]
        by_cases hl : v < ρ'.length
        · rw [List.getElem?_set_self (by rw [rsE_len]; exact hl), if_pos hl]
        · rw [List.getElem?_eq_none (by rw [List.length_set, rsE_len]; omega), if_neg hl]
      · rw [List.getElem?_set_ne e, ih i]
        simp only [List.mem_cons, show (i = v) = False from eq_false fun z => e z.symm, false_or]
  have hlen : ρ'.length = ρ.length := by
    have := congrArg List.length h
    rwa [wpE_len, wpE_len] at this
  refine List.ext_getElem? fun i => ?_
  rw [key]
  by_cases hi : i ∈ vs
  · rw [if_pos hi]
    by_cases hl : i < ρ'.length
    · rw [if_pos hl]
      rw [List.getElem?_eq_getElem (by omega)]
      rfl
    · rw [if_neg hl, List.getElem?_eq_none (by omega)]
  · rw [if_neg hi]
    have := congrArg (fun l => l[i]?) h
    simpa only [wpE_out hi] using this
end G
/-! P0b: operations on plain data. -/
namespace G
open PySem PySem.Spec PyProof.Rows L2
theorem lt_ii (i j : Int) : dLt (.int i) (.int j) = some (.bl (decide (i < j))) := by
  simp [dLt, dDat, toPy, gCmp, lowD, isNn, PySem.W.alike, PyData.depth, PySem.W.dataLt_int]
theorem gt_ii (i j : Int) : dGt (.int i) (.int j) = some (.bl (decide (j < i))) := by
  simp [dGt, dDat, toPy, gCmp, lowD, isNn, PySem.W.alike, PyData.depth, PySem.W.dataLt_int]
theorem le_ii (i j : Int) : dLe (.int i) (.int j) = some (.bl (decide (i ≤ j))) := by
  simp [dLe, dDat, toPy, gCmp, lowD, isNn, PySem.W.alike, PyData.depth, PySem.W.dataLt_int]
  by_cases h : i ≤ j
  · simp [h, Int.not_lt.mpr h]
  · simp [h, Int.not_le.mp h]
theorem ge_ii (i j : Int) : dGe (.int i) (.int j) = some (.bl (decide (j ≤ i))) := by
  simp [dGe, dDat, toPy, gCmp, lowD, isNn, PySem.W.alike, PyData.depth, PySem.W.dataLt_int]
  by_cases h : j ≤ i
  · simp [h, Int.not_lt.mpr h]
  · simp [h, Int.not_le.mp h]
theorem eq_ii (i j : Int) : dEq (.int i) (.int j) = some (.bl (decide (i = j))) := by
  simp [dEq, dDat, toPy, gEq, lowD, PyData.depth, PyData.eqv]
  rfl
theorem ne_ii (i j : Int) : dNe (.int i) (.int j) = some (.bl (!decide (i = j))) := by
  simp [dNe, dDat, toPy, gEq, lowD, PyData.depth, PyData.eqv]
  rfl
theorem sub_ii (i j : Int) : dSub (.int i) (.int j) = some (.int (i - j)) := by simp [dSub, dInt, CTrue]
theorem mul_ii {i j : Int} (h : CMul i j) : dMul (.int i) (.int j) = some (.int (i * j)) := by simp [dMul, h]
theorem md_ii {i j : Int} (h : j ≠ 0) : dMd (.int i) (.int j) = some (.int (i.fmod j)) := by simp [dMd, dInt, h]
theorem fd_ii {i j : Int} (h : CDivN i j) : dFd (.int i) (.int j) = some (.int (i.fdiv j)) := by simp [dFd, dInt, h]
theorem dm_ii {i j : Int} (h : CDiv i j) : dDm [.int i, .int j] = some (.tup [.int (i / j), .int (i % j)]) := by simp [dDm, h]
theorem cmul_l {i j : Int} (h0 : -1000000000000000000 ≤ i) (h : i ≤ 1000000000000000000) : CMul i j := .inl ⟨by omega, by omega⟩
theorem cmul_r {i j : Int} (h0 : -1000000000000000000 ≤ j) (h : j ≤ 1000000000000000000) : CMul i j := .inr ⟨by omega, by omega⟩
/-! evaluating -/
theorem m2_ok {f : D → D → Option D} {a b : M D} {x y z : D} {ρ ρ1 ρ2 : Env} (h1 : a ρ = .ok x ρ1) (h2 : b ρ1 = .ok y ρ2) (h3 : f x y = some z) : m2 f a b ρ = .ok z ρ2 := by simp only [m2, M.bind, h1, h2, h3, M.opt]
theorem m1_ok {f : D → Option D} {a : M D} {x z : D} {ρ ρ1 : Env} (h1 : a ρ = .ok x ρ1) (h3 : f x = some z) : m1 f a ρ = .ok z ρ1 := by simp only [m1, M.bind, h1, h3, M.opt]
theorem mB_ok {a : M D} {b : Bool} {ρ ρ1 : Env} (h1 : a ρ = .ok (.bl b) ρ1) : mB a ρ = .ok b ρ1 := by simp only [mB, M.bind, h1, dBl, M.opt]
theorem mT_ok {a : M D} {d : D} {b : Bool} {ρ ρ1 : Env} (h1 : a ρ = .ok d ρ1) (h2 : dTru d = some b) : mT a ρ = .ok b ρ1 := by simp only [mT, M.bind, h1, h2, M.opt]
theorem cons_ok {a : M D} {r : M (List D)} {d : D} {ds : List D} {ρ ρ1 ρ2 : Env} (h1 : a ρ = .ok d ρ1) (h2 : r ρ1 = .ok ds ρ2) : mCons a r ρ = .ok (d :: ds) ρ2 := by simp only [mCons, M.bind, h1, h2, M.ret]
theorem lst_ok {a : M (List D)} {ds : List D} {ρ ρ1 : Env} (h1 : a ρ = .ok ds ρ1) (h2 : ds.length ≤ sizeLine) : mLst a ρ = .ok (.lst ds) ρ1 := by simp only [mLst, M.bind, h1, h2, if_true, M.opt]
theorem tup_ok {a : M (List D)} {ds : List D} {ρ ρ1 : Env} (h1 : a ρ = .ok ds ρ1) (h2 : ds.length ≤ sizeLine) : mTup a ρ = .ok (.tup ds) ρ1 := by simp only [mTup, M.bind, h1, h2, if_true, M.opt]
theorem a_ok {f : List D → Option D} {a : M (List D)} {ds : List D} {z : D} {ρ ρ1 : Env} (h1 : a ρ = .ok ds ρ1) (h2 : f ds = some z) : mA f a ρ = .ok z ρ1 := by simp only [mA, M.bind, h1, h2, M.opt]
theorem nil_ok {ρ : Env} : mNil ρ = .ok [] ρ := rfl
end G
/-! T0: typed programs, and how a mirror follows one. -/
namespace G
open PySem PySem.Spec PyProof.Rows L2
/-- the outcome of a typed program: a value, an exception, nothing known -/
inductive O (α : Type) where
  | ok (a : α) | er (x : Ex) | no
namespace O
def bind {α β : Type} (m : O α) (f : α → O β) : O β := match m with
  | .ok a => f a
  | .er x => .er x
  | .no => .no
@[simp] theorem ok_bind {α β : Type} (a : α) (f : α → O β) : (O.ok a).bind f = f a := rfl
@[simp] theorem er_bind {α β : Type} (x : Ex) (f : α → O β) : (O.er x : O α).bind f = .er x := rfl
@[simp] theorem no_bind {α β : Type} (f : α → O β) : (O.no : O α).bind f = .no := rfl
theorem bind_assoc {α β γ : Type} (m : O α) (f : α → O β) (g : β → O γ) : (m.bind f).bind g = m.bind fun a => (f a).bind g := by cases m <;> rfl
end O
class Rz (R : Type) where
  er : Ex → Env → R
  no : R
instance {α : Type} : Rz (Rs α) := ⟨.er, .no⟩
instance : Rz SR := ⟨.er, .no⟩
def sqR {α R : Type} [Rz R] (r : Rs α) (k : α → Env → R) : R := match r with
  | .ok a ρ => k a ρ
  | .er x ρ => Rz.er x ρ
  | .no => Rz.no
def sqS (r : SR) (k : Env → SR) : SR := match r with
  | .nx ρ => k ρ
  | r => r
/-- the mirror's outcome follows the typed program's -/
def SmB {R β : Type} [Rz R] (E : Env → Prop) (P : β → R → Prop) (r : R) (t : O β) : Prop := match t with
  | .ok b => P b r
  | .er x => ∃ ρ, r = Rz.er x ρ ∧ E ρ
  | .no => True
@[irreducible] def Sm {R β : Type} [Rz R] (E : Env → Prop) (P : β → R → Prop) (r : R) (t : O β) : Prop := SmB E P r t
section
variable {R β α γ δ : Type} [Rz R] {E : Env → Prop} {P : β → R → Prop} {t : O β} {ρ : Env}
theorem Sm.pu {r : Rs α} {k : α → Env → R} {a : α} {ρ' : Env} (h : r = .ok a ρ') (q : Sm E P (k a ρ') t) : Sm E P (sqR r k) t := by subst h; exact q
theorem Sm.bd {r : Rs α} {k : α → Env → R} {t1 : O γ} {f : γ → α} {g : γ → Env} {t2 : γ → O β} (h : Sm E (fun b r => r = .ok (f b) (g b)) r t1) (q : ∀ b, Sm E P (k (f b) (g b)) (t2 b)) : Sm E P (sqR r k) (t1.bind t2) := by
  unfold Sm SmB at *
  try unfold FSm at *
  cases t1 with
  | ok b => rw [show r = _ from h]; exact q b
  | er x => obtain ⟨ρ, e, h⟩ := h; rw [e]; exact ⟨ρ, rfl, h⟩
  | no => trivial
theorem sqR_bind {m : M α} {f : α → M γ} {k : γ → Env → R} : sqR (m.bind f ρ) k = sqR (m ρ) fun a ρ1 => sqR (f a ρ1) k := by
  unfold M.bind sqR
  cases m ρ <;> rfl
theorem Sm.asc {m : M α} {f : α → M γ} {k : γ → Env → R} (q : Sm E P (sqR (m ρ) fun a ρ1 => sqR (f a ρ1) k) t) : Sm E P (sqR (m.bind f ρ) k) t := by rw [sqR_bind]; exact q
def Os {δ γ : Type} (o : Option δ) (f : γ → δ) (t : O γ) : Prop := match t with
  | .ok b => o = some (f b)
  | .er _ => False
  | .no => True
theorem Sm.op {o : Option δ} {f : γ → δ} {t1 : O γ} {t2 : γ → O β} {k : δ → Env → R} (h : Os o f t1) (q : ∀ b, Sm E P (k (f b) ρ) (t2 b)) : Sm E P (sqR (M.opt o ρ) k) (t1.bind t2) := by
  unfold Sm SmB at *
  try unfold FSm at *
  cases t1 with
  | ok b => rw [show o = _ from h]; exact q b
  | er x => exact h.elim
  | no => trivial
theorem Sm.opp {o : Option δ} {d : δ} {k : δ → Env → R} (h : o = some d) (q : Sm E P (k d ρ) t) : Sm E P (sqR (M.opt o ρ) k) t := by subst h; exact q
theorem Sm.rt {a : α} {k : α → Env → R} (q : Sm E P (k a ρ) t) : Sm E P (sqR (M.ret a ρ) k) t := q
theorem Sm.done {r : R} {b : β} (h : P b r) : Sm E P r (.ok b) := by
  unfold Sm SmB
  exact h
theorem Sm.nil {r : R} : Sm E P r (O.no : O β) := by
  unfold Sm SmB
  trivial
/-- a pure value, named -/
theorem Sm.pv {r : Rs α} {k : α → Env → R} {f : γ → α} {a : γ} {ρ' : Env} {t2 : γ → O β} (h : r = .ok (f a) ρ') (q : ∀ b, Sm E P (k (f b) ρ') (t2 b)) : Sm E P (sqR r k) ((O.ok a).bind t2) := by subst h; exact q a
/-! ### expressions -/
theorem Sm.m1 {f : D → Option D} {a : M D} {k : D → Env → R} (q : Sm E P (sqR (a ρ) fun x ρ1 => sqR (M.opt (f x) ρ1) k) t) : Sm E P (sqR (m1 f a ρ) k) t := by unfold G.m1; rw [sqR_bind]; exact q
theorem Sm.m2 {f : D → D → Option D} {a b : M D} {k : D → Env → R} (q : Sm E P (sqR (a ρ) fun x ρ1 => sqR (b ρ1) fun y ρ2 => sqR (M.opt (f x y) ρ2) k) t) : Sm E P (sqR (m2 f a b ρ) k) t := by unfold G.m2; simp only [sqR_bind]; exact q
theorem Sm.m2L {f : D → D → Option D} {i : Nat} {b : M D} {k : D → Env → R} (q : Sm E P (sqR (mV i ρ) fun _ ρ1 => sqR (b ρ1) fun y ρ2 => sqR (mV i ρ2) fun x ρ3 => sqR (M.opt (f x y) ρ3) k) t) : Sm E P (sqR (m2L f i b ρ) k) t := by unfold G.m2L; simp only [sqR_bind]; exact q
theorem Sm.mA {f : List D → Option D} {a : M (List D)} {k : D → Env → R} (q : Sm E P (sqR (a ρ) fun x ρ1 => sqR (M.opt (f x) ρ1) k) t) : Sm E P (sqR (mA f a ρ) k) t := by unfold G.mA; rw [sqR_bind]; exact q
theorem Sm.mB {a : M D} {k : Bool → Env → R} (q : Sm E P (sqR (a ρ) fun x ρ1 => sqR (M.opt (dBl x) ρ1) k) t) : Sm E P (sqR (mB a ρ) k) t := by unfold G.mB; rw [sqR_bind]; exact q
theorem Sm.mT {a : M D} {k : Bool → Env → R} (q : Sm E P (sqR (a ρ) fun x ρ1 => sqR (M.opt (dTru x) ρ1) k) t) : Sm E P (sqR (mT a ρ) k) t := by unfold G.mT; rw [sqR_bind]; exact q
theorem Sm.mNot {a : M Bool} {k : Bool → Env → R} (q : Sm E P (sqR (a ρ) fun x ρ1 => k (!x) ρ1) t) : Sm E P (sqR (mNot a ρ) k) t := by unfold G.mNot; rw [sqR_bind]; exact q
theorem Sm.mCons {a : M D} {b : M (List D)} {k : List D → Env → R} (q : Sm E P (sqR (a ρ) fun x ρ1 => sqR (b ρ1) fun y ρ2 => k (x :: y) ρ2) t) : Sm E P (sqR (mCons a b ρ) k) t := by unfold G.mCons; simp only [sqR_bind]; exact q
theorem Sm.mTup {a : M (List D)} {k : D → Env → R} (q : Sm E P (sqR (a ρ) fun x ρ1 => sqR (M.opt (if x.length ≤ sizeLine then some (.tup x) else none) ρ1) k) t) : Sm E P (sqR (mTup a ρ) k) t := by unfold G.mTup; rw [sqR_bind]; exact q
theorem Sm.mLst {a : M (List D)} {k : D → Env → R} (q : Sm E P (sqR (a ρ) fun x ρ1 => sqR (M.opt (if x.length ≤ sizeLine then some (.lst x) else none) ρ1) k) t) : Sm E P (sqR (mLst a ρ) k) t := by unfold G.mLst; rw [sqR_bind]; exact q
theorem Sm.mIt {a : M D} {k : List D → Env → R} (q : Sm E P (sqR (a ρ) fun x ρ1 => sqR (M.opt (dIt x) ρ1) k) t) : Sm E P (sqR (mIt a ρ) k) t := by unfold G.mIt; rw [sqR_bind]; exact q
theorem Sm.mRg1 {a : M (List D)} {k : List D → Env → R} (q : Sm E P (sqR (a ρ) fun x ρ1 => sqR (M.opt (dRng1 x) ρ1) k) t) : Sm E P (sqR (mRg1 a ρ) k) t := by unfold G.mRg1; rw [sqR_bind]; exact q
theorem Sm.mRg2 {a : M (List D)} {k : List D → Env → R} (q : Sm E P (sqR (a ρ) fun x ρ1 => sqR (M.opt (dRng2 x) ρ1) k) t) : Sm E P (sqR (mRg2 a ρ) k) t := by unfold G.mRg2; rw [sqR_bind]; exact q
theorem Sm.mEn {a : M (List D)} {k : List D → Env → R} (q : Sm E P (sqR (a ρ) fun x ρ1 => sqR (M.opt ((d1Sq x).map enD) ρ1) k) t) : Sm E P (sqR (mEn a ρ) k) t := by unfold G.mEn; rw [sqR_bind]; exact q
theorem Sm.mZp {a : M (List D)} {k : List D → Env → R} (q : Sm E P (sqR (a ρ) fun x ρ1 => sqR (M.opt (dZp x) ρ1) k) t) : Sm E P (sqR (mZp a ρ) k) t := by unfold G.mZp; rw [sqR_bind]; exact q
theorem Sm.mPt {a : M D} {k : Option Int → Env → R} (q : Sm E P (sqR (a ρ) fun x ρ1 => sqR (M.opt (dI x) ρ1) k) t) : Sm E P (sqR (mPt a ρ) k) t := by unfold G.mPt; rw [sqR_bind]; exact q
theorem Sm.mSl {a : M D} {l h : M (Option Int)} {k : D → Env → R} (q : Sm E P (sqR (a ρ) fun x ρ1 => sqR (l ρ1) fun y ρ2 => sqR (h ρ2) fun z ρ3 => sqR (M.opt (dSl x y z) ρ3) k) t) : Sm E P (sqR (mSl a l h ρ) k) t := by unfold G.mSl; simp only [sqR_bind]; exact q
theorem Sm.mSlL {i : Nat} {l h : M (Option Int)} {k : D → Env → R} (q : Sm E P (sqR (mV i ρ) fun _ ρ1 => sqR (l ρ1) fun y ρ2 => sqR (h ρ2) fun z ρ3 => sqR (mV i ρ3) fun x ρ4 => sqR (M.opt (dSl x y z) ρ4) k) t) : Sm E P (sqR (mSlL i l h ρ) k) t := by unfold G.mSlL; simp only [sqR_bind]; exact q
def joK (b : M D) (x : D) : M D := match x with
  | .str _ => b.bind fun y => M.opt (dJo x y)
  | _ => M.opt none
theorem Sm.mJo {a b : M D} {k : D → Env → R} (q : Sm E P (sqR (a ρ) fun x ρ1 => sqR (joK b x ρ1) k) t) : Sm E P (sqR (mJo a b ρ) k) t := by unfold G.mJo; rw [sqR_bind]; exact q
theorem Sm.joK {x : Str} {b : M D} {k : D → Env → R} (q : Sm E P (sqR (b ρ) fun y ρ1 => sqR (M.opt (dJo (.str x) y) ρ1) k) t) : Sm E P (sqR (joK b (.str x) ρ) k) t := by unfold G.joK; rw [sqR_bind]; exact q
def chK (g : D → D → Option D) (c : M D) (y : D) (d : D) : M D := match d with
  | .bl k => if k = true then c.bind fun z => M.opt (g y z) else M.ret (.bl false)
  | _ => M.opt none
theorem Sm.mCh {f g : D → D → Option D} {a b c : M D} {k : D → Env → R} (q : Sm E P (sqR (a ρ) fun x ρ1 => sqR (b ρ1) fun y ρ2 => sqR (M.opt (f x y) ρ2) fun d ρ3 => sqR (chK g c y d ρ3) k) t) : Sm E P (sqR (mCh f g a b c ρ) k) t := by unfold G.mCh; simp only [sqR_bind]; exact q
/-- the second part of a chain -/
theorem Sm.chK {g : D → D → Option D} {c : M D} {y : D} {x : Bool} {Q : γ → Rs D → Prop} {t1 : O γ} {b0 : γ} (ht : x = true → Sm E Q (sqR (c ρ) fun z ρ1 => M.opt (g y z) ρ1) t1) (hf : Q b0 (.ok (.bl false) ρ)) : Sm E Q (G.chK g c y (.bl x) ρ) (if x = true then t1 else .ok b0) := by
  cases x with
  | true => exact ht rfl
  | false => exact Sm.done hf
def andK (b : M D) (d : D) : M D := match d with
  | .bl c => if c = true then b else M.ret (.bl false)
  | _ => M.opt none
def orK (b : M D) (d : D) : M D := match d with
  | .bl c => if c = true then M.ret (.bl true) else b
  | _ => M.opt none
theorem Sm.mAndV {a b : M D} {k : D → Env → R} (q : Sm E P (sqR (a ρ) fun d ρ1 => sqR (andK b d ρ1) k) t) : Sm E P (sqR (mAndV a b ρ) k) t := by unfold G.mAndV; rw [sqR_bind]; exact q
theorem Sm.mOrV {a b : M D} {k : D → Env → R} (q : Sm E P (sqR (a ρ) fun d ρ1 => sqR (orK b d ρ1) k) t) : Sm E P (sqR (mOrV a b ρ) k) t := by unfold G.mOrV; rw [sqR_bind]; exact q
theorem Sm.andK {b : M D} {x : Bool} {Q : γ → Rs D → Prop} {t1 : O γ} {b0 : γ} (ht : x = true → Sm E Q (b ρ) t1) (hf : Q b0 (.ok (.bl false) ρ)) : Sm E Q (G.andK b (.bl x) ρ) (if x = true then t1 else .ok b0) := by
  cases x with
  | true => exact ht rfl
  | false => exact Sm.done hf
theorem Sm.orK {b : M D} {x : Bool} {Q : γ → Rs D → Prop} {t1 : O γ} {b0 : γ} (hf : x = false → Sm E Q (b ρ) t1) (ht : Q b0 (.ok (.bl true) ρ)) : Sm E Q (G.orK b (.bl x) ρ) (if x = true then .ok b0 else t1) := by
  cases x with
  | true => exact Sm.done ht
  | false => exact hf rfl
def andB (b : M Bool) (c : Bool) : M Bool := if c = true then b else M.ret false
def orB (b : M Bool) (c : Bool) : M Bool := if c = true then M.ret true else b
theorem Sm.mAnd {a b : M Bool} {k : Bool → Env → R} (q : Sm E P (sqR (a ρ) fun d ρ1 => sqR (andB b d ρ1) k) t) : Sm E P (sqR (mAnd a b ρ) k) t := by unfold G.mAnd; rw [sqR_bind]; exact q
theorem Sm.mOr {a b : M Bool} {k : Bool → Env → R} (q : Sm E P (sqR (a ρ) fun d ρ1 => sqR (orB b d ρ1) k) t) : Sm E P (sqR (mOr a b ρ) k) t := by unfold G.mOr; rw [sqR_bind]; exact q
theorem Sm.andB {b : M Bool} {x : Bool} {Q : γ → Rs Bool → Prop} {t1 : O γ} {b0 : γ} (ht : x = true → Sm E Q (b ρ) t1) (hf : Q b0 (.ok false ρ)) : Sm E Q (G.andB b x ρ) (if x = true then t1 else .ok b0) := by
  cases x with
  | true => exact ht rfl
  | false => exact Sm.done hf
theorem Sm.orB {b : M Bool} {x : Bool} {Q : γ → Rs Bool → Prop} {t1 : O γ} {b0 : γ} (hf : x = false → Sm E Q (b ρ) t1) (ht : Q b0 (.ok true ρ)) : Sm E Q (G.orB b x ρ) (if x = true then .ok b0 else t1) := by
  cases x with
  | true => exact Sm.done ht
  | false => exact hf rfl
def ifK (a b : M D) (c : Bool) : M D := if c = true then a else b
theorem Sm.mIf {c : M Bool} {a b : M D} {k : D → Env → R} (q : Sm E P (sqR (c ρ) fun d ρ1 => sqR (ifK a b d ρ1) k) t) : Sm E P (sqR (mIf c a b ρ) k) t := by unfold G.mIf; rw [sqR_bind]; exact q
theorem Sm.ifK {a b : M D} {x : Bool} {Q : γ → Rs D → Prop} {t1 t2 : O γ} (ht : x = true → Sm E Q (a ρ) t1) (hf : x = false → Sm E Q (b ρ) t2) : Sm E Q (G.ifK a b x ρ) (if x = true then t1 else t2) := by
  cases x with
  | true => exact ht rfl
  | false => exact hf rfl
/-- a part of an expression by itself -/
theorem Sm.ex {r : Rs α} {Q : γ → Rs α → Prop} {t1 : O γ} (q : Sm E Q (sqR r fun a ρ => .ok a ρ) t1) : Sm E Q r t1 := by
  have : sqR r (fun a ρ => .ok a ρ) = r := by cases r <;> rfl
  rw [this] at q
  exact q
/-! texts put together -/
def jsK (ms : List (M D)) (acc : Str) (d : D) : M Str := match d with
  | .str y => if (acc ++ y).length ≤ sizeLine then mJs ms (acc ++ y) else M.opt none
  | _ => M.opt none
/-- x + y of texts -/
def catS (x y : Str) : O Str := if (x ++ y).length ≤ sizeLine then .ok (x ++ y) else .no
theorem Sm.mJn {ms : List (M D)} {k : D → Env → R} (q : Sm E P (sqR (mJs ms Str.empty ρ) fun y ρ1 => k (.str y) ρ1) t) : Sm E P (sqR (mJn ms ρ) k) t := by unfold G.mJn; rw [sqR_bind]; exact q
theorem Sm.js_c {m : M D} {ms : List (M D)} {acc : Str} {k : Str → Env → R} (q : Sm E P (sqR (m ρ) fun d ρ1 => sqR (jsK ms acc d ρ1) k) t) : Sm E P (sqR (mJs (m :: ms) acc ρ) k) t := by unfold mJs; rw [sqR_bind]; exact q
theorem Sm.js_s {ms : List (M D)} {acc y : Str} {k : Str → Env → R} {t2 : Str → O β} (q : ∀ a, Sm E P (sqR (mJs ms a ρ) k) (t2 a)) : Sm E P (sqR (jsK ms acc (.str y) ρ) k) ((catS acc y).bind t2) := by
  unfold catS jsK
  simp only
  split
  · exact q _
  · exact Sm.nil
theorem Sm.js_n {acc : Str} {k : Str → Env → R} (q : Sm E P (k acc ρ) t) : Sm E P (sqR (mJs [] acc ρ) k) t := q
end
/-! ### calls -/
section
variable {R β α γ δ : Type} [Rz R] {E : Env → Prop} {P : β → R → Prop} {t : O β} {ρ : Env}
/-- a def's mirror follows a typed program -/
@[irreducible] def FSm (MF : MFn) (ds : List D) (f : γ → D) (o : γ → List D) (t : O γ) : Prop := match t with
  | .ok b => MF ds = .ok (f b) (o b)
  | .er x => ∃ outs, MF ds = .er x outs
  | .no => True
/-- how a body ends -/
def RT {γ : Type} (f : γ → D) (o : γ → List D) (ix : List Nat) (b : γ) (r : SR) : Prop := ∃ ρ, r = .rt (f b) ρ ∧ outsE ρ ix = o b
def RN {γ : Type} (f : γ → D) (o : γ → List D) (ix : List Nat) (b : γ) (r : SR) : Prop := ∃ ρ, (r = .rt (f b) ρ ∨ (r = .nx ρ ∧ f b = .non)) ∧ outsE ρ ix = o b
theorem FSm.mk {n : Nat} {ks : List Kd} {ro : Bool} {b : MS} {ds : List D} {f : γ → D} {o : γ → List D} {t : O γ} (h : Sm (fun _ => True) (RT f o (ioIx ks 0)) (b (stE n ds)) t) : FSm (mFn n ks ro b) ds f o t := by
  unfold Sm SmB at *
  try unfold FSm at *
  cases t with
  | ok v =>
    obtain ⟨ρ, e, h⟩ := h
    show mFn n ks ro b ds = _
    unfold mFn
    rw [e, ← h]
  | er x =>
    obtain ⟨ρ, e, _⟩ := h
    exact ⟨outsE ρ (ioIx ks 0), by unfold mFn; rw [e]; rfl⟩
  | no => trivial
theorem FSm.mkN {n : Nat} {ks : List Kd} {b : MS} {ds : List D} {f : γ → D} {o : γ → List D} {t : O γ} (h : Sm (fun _ => True) (RN f o (ioIx ks 0)) (b (stE n ds)) t) : FSm (mFn n ks false b) ds f o t := by
  unfold Sm SmB at *
  try unfold FSm at *
  cases t with
  | ok v =>
    obtain ⟨ρ, e, h⟩ := h
    show mFn n ks false b ds = _
    unfold mFn
    rcases e with e | ⟨e, e2⟩
    · rw [e, ← h]
    · rw [e, ← h, e2]
      rfl
  | er x =>
    obtain ⟨ρ, e, _⟩ := h
    exact ⟨outsE ρ (ioIx ks 0), by unfold mFn; rw [e]; rfl⟩
  | no => trivial
/-- frozen arguments -/
def ckK (n m k : Nat) (gD : List D → List D → List D) (MF : MFn) (ds es : List D) : M D := if ds.length = n ∧ es.length = m ∧ (gD ds es).length = k then frM (MF (gD ds es)) else M.opt none
theorem Sm.mCkd {n m l : Nat} {gD : List D → List D → List D} {MF : MFn} {a b : M (List D)} {k : D → Env → R} (q : Sm E P (sqR (a ρ) fun ds ρ1 => sqR (b ρ1) fun es ρ2 => sqR (ckK n m l gD MF ds es ρ2) k) t) : Sm E P (sqR (mCkd n m l gD MF a b ρ) k) t := by unfold G.mCkd; simp only [sqR_bind]; exact q
theorem Sm.frM {MF : MFn} {ds : List D} {k : D → Env → R} {f : γ → D} {o : γ → List D} {t1 : O γ} {t2 : γ → O β} (hE : E ρ) (h : FSm MF ds f o t1) (q : ∀ b, Sm E P (k (f b) ρ) (t2 b)) : Sm E P (sqR (frM (MF ds) ρ) k) (t1.bind t2) := by
  unfold Sm SmB at *
  try unfold FSm at *
  cases t1 with
  | ok b => rw [show MF ds = _ from h]; exact q b
  | er x => obtain ⟨o, e⟩ := h; rw [e]; exact ⟨ρ, rfl, hE⟩
  | no => trivial
theorem Sm.ckK {n m l : Nat} {gD : List D → List D → List D} {MF : MFn} {ds es us : List D} {k : D → Env → R} {f : γ → D} {o : γ → List D} {t1 : O γ} {t2 : γ → O β} (h : FSm MF us f o t1) (hg : ds.length = n ∧ es.length = m ∧ us.length = l) (hu : gD ds es = us) (hE : E ρ) (q : ∀ b, Sm E P (k (f b) ρ) (t2 b)) : Sm E P (sqR (G.ckK n m l gD MF ds es ρ) k) (t1.bind t2) := by
  unfold G.ckK
  rw [hu, if_pos hg]
  exact Sm.frM hE h q
/-- arguments that are changed -/
def chH (sh : List Ah) (MF : MFn) (fs : List D) : M D := fun ρ => match asmA ρ sh fs with
  | none => .no
  | some ds => match MF ds with
    | .ok d outs => .ok d (putA ρ sh outs)
    | .er x outs => .er x (putA ρ sh outs)
    | .no => .no
theorem Sm.mCallH {sh : List Ah} {MF : MFn} {a : M (List D)} {k : D → Env → R} (q : Sm E P (sqR (a ρ) fun ds ρ1 => sqR (chH sh MF ds ρ1) k) t) : Sm E P (sqR (mCallH sh MF a ρ) k) t := by unfold G.mCallH; rw [sqR_bind]; exact q
theorem Sm.chH {sh : List Ah} {MF : MFn} {fs ds : List D} {k : D → Env → R} {f : γ → D} {o : γ → List D} {t1 : O γ} {t2 : γ → O β} (h : FSm MF ds f o t1) (ha : asmA ρ sh fs = some ds) (hE : ∀ outs, E (putA ρ sh outs)) (q : ∀ b, Sm E P (k (f b) (putA ρ sh (o b))) (t2 b)) : Sm E P (sqR (G.chH sh MF fs ρ) k) (t1.bind t2) := by
  unfold Sm SmB at *
  try unfold FSm at *
  unfold G.chH
  rw [ha]
  cases t1 with
  | ok b =>
    have e : MF ds = _ := h
    simp only [e]
    exact q b
  | er x =>
    obtain ⟨o, e⟩ := h
    simp only [e]
    exact ⟨_, rfl, hE _⟩
  | no => trivial
/-- new instances -/
def mkK (c n m k : Nat) (gD : List D → List D → List D) (MF : MFn) (ds es : List D) : M D := if ds.length = n ∧ es.length = m ∧ (gD ds es).length = k then mkR (MF (.obj c [] :: gD ds es)) else M.opt none
theorem Sm.mMk {c n m l : Nat} {gD : List D → List D → List D} {MF : MFn} {a b : M (List D)} {k : D → Env → R} (q : Sm E P (sqR (a ρ) fun ds ρ1 => sqR (b ρ1) fun es ρ2 => sqR (mkK c n m l gD MF ds es ρ2) k) t) : Sm E P (sqR (mMk c n m l gD MF a b ρ) k) t := by unfold G.mMk; simp only [sqR_bind]; exact q
theorem Sm.mkK {c n m l : Nat} {gD : List D → List D → List D} {MF : MFn} {ds es us : List D} {k : D → Env → R} {t1 : O D} {t2 : D → O β} (h : FSm MF (.obj c [] :: us) (fun _ => D.non) (fun o => [o]) t1) (hg : ds.length = n ∧ es.length = m ∧ us.length = l) (hu : gD ds es = us) (hE : E ρ) (q : ∀ b, Sm E P (k b ρ) (t2 b)) : Sm E P (sqR (G.mkK c n m l gD MF ds es ρ) k) (t1.bind t2) := by
  unfold Sm SmB at *
  try unfold FSm at *
  unfold G.mkK
  rw [hu, if_pos hg]
  cases t1 with
  | ok b => rw [show MF _ = _ from h]; exact q b
  | er x => obtain ⟨o, e⟩ := h; rw [e]; exact ⟨ρ, rfl, hE⟩
  | no => trivial
/-- methods -/
def isO (c : Nat) (d : D) : O Unit := if isObj c d = true then .ok () else .no
def mthK (c n l : Nat) (gD : List D → List D → List D) (MF : MFn) (a : M (List D)) (x : D) : M D := if isObj c x = true then a.bind fun ds => if (x :: ds).length = n ∧ (gD (x :: ds) []).length = l then G.frM (MF (gD (x :: ds) [])) else M.opt none else M.opt none
theorem Sm.mMth {c n l : Nat} {gD : List D → List D → List D} {MF : MFn} {o : M D} {a : M (List D)} {k : D → Env → R} (q : Sm E P (sqR (o ρ) fun x ρ1 => sqR (mthK c n l gD MF a x ρ1) k) t) : Sm E P (sqR (mMth c n l gD MF o a ρ) k) t := by unfold G.mMth; rw [sqR_bind]; exact q
def mthA (n l : Nat) (gD : List D → List D → List D) (MF : MFn) (x : D) (ds : List D) : M D := if (x :: ds).length = n ∧ (gD (x :: ds) []).length = l then G.frM (MF (gD (x :: ds) [])) else M.opt none
theorem Sm.mthK {c n l : Nat} {gD : List D → List D → List D} {MF : MFn} {x : D} {a : M (List D)} {k : D → Env → R} {t2 : Unit → O β} (q : Sm E P (sqR (a ρ) fun ds ρ1 => sqR (mthA n l gD MF x ds ρ1) k) (t2 ())) : Sm E P (sqR (G.mthK c n l gD MF a x ρ) k) ((isO c x).bind t2) := by
  unfold G.mthK isO
  split
  · rw [sqR_bind]; exact q
  · exact Sm.nil
theorem Sm.mthA {n l : Nat} {gD : List D → List D → List D} {MF : MFn} {x : D} {ds us : List D} {k : D → Env → R} {f : γ → D} {o : γ → List D} {t1 : O γ} {t2 : γ → O β} (h : FSm MF us f o t1) (hg : (x :: ds).length = n ∧ us.length = l) (hu : gD (x :: ds) [] = us) (hE : E ρ) (q : ∀ b, Sm E P (k (f b) ρ) (t2 b)) : Sm E P (sqR (G.mthA n l gD MF x ds ρ) k) (t1.bind t2) := by
  unfold G.mthA
  rw [hu, if_pos hg]
  exact Sm.frM hE h q
/-- str(x) of an instance -/
def strOK (c : Nat) (MF : MFn) (x : D) : M D := if isObj c x = true then (match MF [x] with
  | .ok (.str y) _ => M.ret (.str y)
  | _ => M.opt none) else M.opt none
theorem Sm.mStrO {c : Nat} {MF : MFn} {a : M D} {k : D → Env → R} (q : Sm E P (sqR (a ρ) fun x ρ1 => sqR (strOK c MF x ρ1) k) t) : Sm E P (sqR (mStrO c MF a ρ) k) t := by unfold G.mStrO; rw [sqR_bind]; exact q
def noX {α : Type} (m : O α) : O α := match m with
  | .ok a => .ok a
  | _ => .no
theorem Sm.strOK {c : Nat} {MF : MFn} {x : D} {k : D → Env → R} {o : Str → List D} {t1 : O Str} {t2 : Str → O β} (h : FSm MF [x] D.str o t1) (q : ∀ b, Sm E P (k (.str b) ρ) (t2 b)) : Sm E P (sqR (G.strOK c MF x ρ) k) ((isO c x).bind fun _ => (noX t1).bind t2) := by
  unfold FSm at h
  unfold G.strOK isO
  split
  · cases t1 with
    | ok b =>
      have e : MF [x] = _ := h
      simp only [e]
      exact q b
    | er x => exact Sm.nil
    | no => exact Sm.nil
  · exact Sm.nil
end
/-! ### statements -/
section
variable {β α γ δ : Type} {E : Env → Prop} {P : β → SR → Prop} {t : O β} {ρ : Env}
theorem sqS_of {m : M α} {k : α → MS} {k2 : Env → SR} : sqS (MS.of m k ρ) k2 = sqR (m ρ) fun a ρ1 => sqS (k a ρ1) k2 := by
  unfold MS.of
  cases m ρ <;> rfl
theorem Sm.fin {r : SR} (q : Sm E P (sqS r .nx) t) : Sm E P r t := by
  have : sqS r .nx = r := by cases r <;> rfl
  rw [this] at q
  exact q
theorem Sm.sq {a b : MS} {k : Env → SR} (q : Sm E P (sqS (a ρ) fun ρ1 => sqS (b ρ1) k) t) : Sm E P (sqS ((a.sq b) ρ) k) t := by
  have : sqS ((a.sq b) ρ) k = sqS (a ρ) fun ρ1 => sqS (b ρ1) k := by unfold MS.sq; cases a ρ <;> rfl
  rw [this]; exact q
theorem Sm.nx {k : Env → SR} (q : Sm E P (k ρ) t) : Sm E P (sqS (mNx ρ) k) t := q
theorem Sm.set {i : Nat} {m : M D} {k : Env → SR} (q : Sm E P (sqR (m ρ) fun d ρ1 => k (ρ1.set i (some d))) t) : Sm E P (sqS (mSet i m ρ) k) t := by unfold mSet; rw [sqS_of]; exact q
theorem Sm.exp {m : M D} {k : Env → SR} (q : Sm E P (sqR (m ρ) fun _ ρ1 => k ρ1) t) : Sm E P (sqS (mExp m ρ) k) t := by unfold mExp; rw [sqS_of]; exact q
theorem Sm.ret {m : M D} {k : Env → SR} (q : Sm E P (sqR (m ρ) fun d ρ1 => .rt d ρ1) t) : Sm E P (sqS (mRet m ρ) k) t := by unfold mRet; rw [sqS_of]; exact q
theorem Sm.par {is : List Nat} {m : M (List D)} {k : Env → SR} (q : Sm E P (sqR (m ρ) fun ds ρ1 => k (setE ρ1 is ds)) t) : Sm E P (sqS (mPar is m ρ) k) t := by unfold mPar; rw [sqS_of]; exact q
def sqG (o : Option Env) (k : Env → SR) : SR := match o with
  | some ρ => k ρ
  | none => .no
theorem Sm.asg {g : MG} {m : M D} {k : Env → SR} (q : Sm E P (sqR (m ρ) fun d ρ1 => sqG (g d ρ1) k) t) : Sm E P (sqS (mAsg g m ρ) k) t := by
  unfold mAsg
  rw [sqS_of]
  have : (fun (d : D) (ρ1 : Env) => sqG (g d ρ1) k) = fun d ρ1 => sqS ((match g d ρ1 with | some ρ' => mNx ρ' | none => .no)) k := by
    funext d ρ1
    cases g d ρ1 <;> rfl
  rw [this] at q
  exact q
theorem Sm.gp {o : Option Env} {ρ1 : Env} {k : Env → SR} (h : o = some ρ1) (q : Sm E P (k ρ1) t) : Sm E P (sqG o k) t := by subst h; exact q
theorem sqG_C {g : MG} {gs : MGs} {d : D} {ds : List D} {k : Env → SR} : sqG (gC g gs (d :: ds) ρ) k = sqG (g d ρ) fun ρ1 => sqG (gs ds ρ1) k := by
  unfold gC
  simp only
  cases g d ρ <;> rfl
theorem Sm.gT {n : Nat} {gs : MGs} {ds : List D} {k : Env → SR} (hn : ds.length = n) (q : Sm E P (sqG (gs ds ρ) k) t) : Sm E P (sqG (gT n gs (.tup ds) ρ) k) t := by
  unfold G.gT
  simp only
  rw [if_pos hn]; exact q
theorem Sm.gC {g : MG} {gs : MGs} {d : D} {ds : List D} {k : Env → SR} (q : Sm E P (sqG (g d ρ) fun ρ1 => sqG (gs ds ρ1) k) t) : Sm E P (sqG (gC g gs (d :: ds) ρ) k) t := by rw [sqG_C]; exact q
theorem Sm.gE {k : Env → SR} (q : Sm E P (k ρ) t) : Sm E P (sqG (gE [] ρ) k) t := q
theorem Sm.gN {i : Nat} {d : D} {k : Env → SR} (q : Sm E P (k (ρ.set i (some d))) t) : Sm E P (sqG (gN i d ρ) k) t := q
/-- xs[j] = v -/
def stL {α : Type} (xs : List α) (j : Int) (v : α) : O (List α) := match ixN xs.length j with
  | some n => .ok (xs.set n v)
  | none => .no
theorem Sm.gSb {i : Nat} {mi : M D} {e : γ → D} {xs : List γ} {j : Int} {v : γ} {k : Env → SR} {t2 : List γ → O β} (h0 : ρ[i]? = some (some (.lst (xs.map e)))) (hm : mi ρ = .ok (.int j) ρ) (q : ∀ ys, Sm E P (k (ρ.set i (some (.lst (ys.map e))))) (t2 ys)) : Sm E P (sqG (gSb i mi (e v) ρ) k) ((stL xs j v).bind t2) := by
  unfold G.gSb stL
  rw [h0]
  simp only [hm, h0, List.length_map]
  cases ixN xs.length j with
  | none => exact Sm.nil
  | some n =>
    have := q (xs.set n v)
    rw [List.map_set] at this
    exact this
theorem Sm.ifp {c : M Bool} {a b : MS} {x : Bool} {ρ1 : Env} {k : Env → SR} {t1 t2 : O β} (hc : c ρ = .ok x ρ1) (ha : x = true → Sm E P (sqS (a ρ1) k) t1) (hb : x = false → Sm E P (sqS (b ρ1) k) t2) : Sm E P (sqS (mIfS c a b ρ) k) (if x = true then t1 else t2) := by
  unfold mIfS
  rw [sqS_of, hc]
  cases x with
  | true => exact ha rfl
  | false => exact hb rfl
def ifS (a b : MS) (x : Bool) : MS := if x = true then a else b
theorem Sm.ifc {c : M Bool} {a b : MS} {k : Env → SR} (q : Sm E P (sqR (c ρ) fun x ρ1 => sqS (ifS a b x ρ1) k) t) : Sm E P (sqS (mIfS c a b ρ) k) t := by
  unfold mIfS
  rw [sqS_of]
  exact q
theorem Sm.ifS {a b : MS} {x : Bool} {k : Env → SR} {t1 t2 : O β} (ha : x = true → Sm E P (sqS (a ρ) k) t1) (hb : x = false → Sm E P (sqS (b ρ) k) t2) : Sm E P (sqS (G.ifS a b x ρ) k) (if x = true then t1 else t2) := by
  cases x with
  | true => exact ha rfl
  | false => exact hb rfl
/-- what stands behind a part that goes on -/
def NX {γ J : Type} (I : γ → J → Env) (b : γ) (r : SR) : Prop := ∃ j, r = .nx (I b j)
/-- .. within a loop -/
def NC {γ J : Type} (I : γ → J → Env) (b : γ) (r : SR) : Prop := ∃ j, r = .nx (I b j) ∨ r = .ct (I b j)
theorem Sm.bs {J : Type} {I : γ → J → Env} {r : SR} {t1 : O γ} {t2 : γ → O β} {k : Env → SR} (h : Sm E (NX I) r t1) (q : ∀ b j, Sm E P (k (I b j)) (t2 b)) : Sm E P (sqS r k) (t1.bind t2) := by
  unfold Sm SmB at *
  try unfold FSm at *
  cases t1 with
  | ok b => obtain ⟨j, e⟩ := h; subst e; exact q b j
  | er x => obtain ⟨ρ, e, h⟩ := h; subst e; exact ⟨ρ, rfl, h⟩
  | no => trivial
theorem Sm.for {it : M (List D)} {g : MG} {b : MS} {k : Env → SR} (q : Sm E P (sqR (it ρ) fun ds ρ1 => sqS (forL g b ds ρ1) k) t) : Sm E P (sqS (mFor it g b ρ) k) t := by unfold mFor; rw [sqS_of]; exact q
/-- a loop that goes through -/
def forN {α σ : Type} (f : α → σ → O σ) : List α → σ → O σ
  | [], s => .ok s
  | x :: xs, s => (f x s).bind (forN f xs)
theorem SmB.forN {σ J : Type} {I : σ → J → Env} {f : α → σ → O σ} {e : α → D} {g : MG} {b : MS} (step : ∀ x s j, SmB E (NC I) (sqG (g (e x) (I s j)) b) (f x s)) : ∀ (xs : List α) (s : σ) (j : J), SmB E (NX I) (forL g b (xs.map e) (I s j)) (G.forN f xs s)
  | [], s, j => ⟨j, rfl⟩
  | x :: xs, s, j => by
    have hs := step x s j
    rw [List.map_cons]
    unfold forL G.forN
    cases hf : f x s with
    | ok s1 =>
      rw [hf] at hs
      obtain ⟨j1, e1⟩ := hs
      cases hg : g (e x) (I s j) with
      | none => rw [hg] at e1; rcases e1 with e1 | e1 <;> cases e1
      | some ρ2 =>
        rw [hg] at e1
        simp only [O.ok_bind]
        have ih := SmB.forN step xs s1 j1
        rcases e1 with e1 | e1
        · rw [show b ρ2 = _ from e1]; exact ih
        · rw [show b ρ2 = _ from e1]; exact ih
    | er x =>
      rw [hf] at hs
      obtain ⟨ρ1, e1, h1⟩ := hs
      cases hg : g (e _) (I s j) with
      | none => rw [hg] at e1; cases e1
      | some ρ2 =>
        rw [hg] at e1
        simp only [O.er_bind]
        rw [show b ρ2 = _ from e1]
        exact ⟨ρ1, rfl, h1⟩
    | no => trivial
theorem Sm.forN {σ J : Type} {I : σ → J → Env} {f : α → σ → O σ} {e : α → D} {g : MG} {b : MS} (step : ∀ x s j, Sm E (NC I) (sqG (g (e x) (I s j)) b) (f x s)) : ∀ (xs : List α) (s : σ) (j : J), Sm E (NX I) (forL g b (xs.map e) (I s j)) (G.forN f xs s) := by
  unfold Sm at *
  exact SmB.forN step
/-- a loop that may be left: on with a state, out with one, or out of the def -/
inductive Stp (σ ρ : Type) where
  | on (s : σ) | out (s : σ) | rt (r : ρ)
def forR {α σ ρ : Type} (f : α → σ → O (Stp σ ρ)) : List α → σ → O (Sum ρ σ)
  | [], s => .ok (.inr s)
  | x :: xs, s => (f x s).bind fun z => match z with
    | .on s => forR f xs s
    | .out s => .ok (.inr s)
    | .rt r => .ok (.inl r)
def ST {σ ρ J : Type} (I : σ → J → Env) (Q : ρ → SR → Prop) (z : Stp σ ρ) (r : SR) : Prop := match z with
  | .on s => NC I s r
  | .out s => ∃ j, r = .bk (I s j)
  | .rt v => (∃ d ρ, r = .rt d ρ) ∧ Q v r
def SO {σ ρ J : Type} (I : σ → J → Env) (Q : ρ → SR → Prop) (z : Sum ρ σ) (r : SR) : Prop := match z with
  | .inl v => (∃ d ρ, r = .rt d ρ) ∧ Q v r
  | .inr s => NX I s r
theorem SmB.forR {σ ρτ J : Type} {I : σ → J → Env} {Q : ρτ → SR → Prop} {f : α → σ → O (Stp σ ρτ)} {e : α → D} {g : MG} {b : MS} (step : ∀ x s j, SmB E (ST I Q) (sqG (g (e x) (I s j)) b) (f x s)) : ∀ (xs : List α) (s : σ) (j : J), SmB E (SO I Q) (forL g b (xs.map e) (I s j)) (G.forR f xs s)
  | [], s, j => ⟨j, rfl⟩
  | x :: xs, s, j => by
    have hs := step x s j
    rw [List.map_cons]
    unfold forL G.forR
    cases hf : f x s with
    | ok z =>
      rw [hf] at hs
      cases hg : g (e x) (I s j) with
      | none =>
        rw [hg] at hs
        cases z with
        | on s => obtain ⟨ρ1, e1⟩ := hs; rcases e1 with e1 | e1 <;> cases e1
        | out s => obtain ⟨ρ1, e1⟩ := hs; cases e1
        | rt v => obtain ⟨⟨d, ρ1, e1⟩, _⟩ := hs; cases e1
      | some ρ2 =>
        rw [hg] at hs
        simp only [O.ok_bind]
        cases z with
        | on s1 =>
          obtain ⟨j1, e1⟩ := hs
          have ih := SmB.forR step xs s1 j1
          rcases e1 with e1 | e1
          · rw [show b ρ2 = _ from e1]; exact ih
          · rw [show b ρ2 = _ from e1]; exact ih
        | out s1 =>
          obtain ⟨j1, e1⟩ := hs
          rw [show b ρ2 = _ from e1]
          exact ⟨j1, rfl⟩
        | rt v =>
          obtain ⟨⟨d, ρ1, e1⟩, h1⟩ := hs
          have e2 : b ρ2 = _ := e1
          simp only [e2]
          refine ⟨⟨d, ρ1, rfl⟩, ?_⟩
          rw [← e2]
          exact h1
    | er x =>
      rw [hf] at hs
      obtain ⟨ρ1, e1, h1⟩ := hs
      cases hg : g (e _) (I s j) with
      | none => rw [hg] at e1; cases e1
      | some ρ2 =>
        rw [hg] at e1
        simp only [O.er_bind]
        rw [show b ρ2 = _ from e1]
        exact ⟨ρ1, rfl, h1⟩
    | no => trivial
theorem Sm.forR {σ ρτ J : Type} {I : σ → J → Env} {Q : ρτ → SR → Prop} {f : α → σ → O (Stp σ ρτ)} {e : α → D} {g : MG} {b : MS} (step : ∀ x s j, Sm E (ST I Q) (sqG (g (e x) (I s j)) b) (f x s)) : ∀ (xs : List α) (s : σ) (j : J), Sm E (SO I Q) (forL g b (xs.map e) (I s j)) (G.forR f xs s) := by
  unfold Sm at *
  exact SmB.forR step
/-- behind a loop that may return -/
theorem Sm.bR {σ ρτ J : Type} {I : σ → J → Env} {Q : ρτ → SR → Prop} {r : SR} {t1 : O (Sum ρτ σ)} {t2 : Sum ρτ σ → O β} {k : Env → SR} (h : Sm E (SO I Q) r t1) (q1 : ∀ v, Q v r → Sm E P r (t2 (.inl v))) (q2 : ∀ s j, Sm E P (k (I s j)) (t2 (.inr s))) : Sm E P (sqS r k) (t1.bind t2) := by
  unfold Sm SmB at *
  try unfold FSm at *
  cases t1 with
  | ok z =>
    cases z with
    | inl v =>
      obtain ⟨⟨d, ρ, e⟩, h⟩ := h
      subst e
      exact q1 v h
    | inr s => obtain ⟨j, e⟩ := h; subst e; exact q2 s j
  | er x => obtain ⟨ρ, e, h⟩ := h; subst e; exact ⟨ρ, rfl, h⟩
  | no => trivial
theorem Sm.rs {x : Ex} {k : Env → SR} (hE : E ρ) : Sm E P (sqS (mRs x ρ) k) (.er x) := by
  unfold Sm SmB
  exact ⟨ρ, rfl, hE⟩
/-! while -/
def whN {σ : Type} (c : σ → O Bool) (b : σ → O σ) : Nat → σ → O σ
  | 0, _ => .no
  | n + 1, s => (c s).bind fun k => if k = true then (b s).bind (whN c b n) else .ok s
open Classical in
noncomputable def whO {σ : Type} (c : σ → O Bool) (b : σ → O σ) (s : σ) : O σ := if h : ∃ n x, whN c b n s = .ok x then whN c b (choose h) s else .no
theorem whN_mono {σ : Type} {c : σ → O Bool} {b : σ → O σ} : ∀ {n : Nat} {s x : σ}, whN c b n s = .ok x → ∀ k, whN c b (n + k) s = .ok x
  | 0, s, x, h, k => by cases h
  | n + 1, s, x, h, k => by
    rw [Nat.add_right_comm]
    unfold whN at h ⊢
    cases hc : c s with
    | ok v =>
      rw [hc] at h
      simp only [O.ok_bind] at h ⊢
      split at h
      · rename_i hv
        rw [if_pos hv]
        cases hb : b s with
        | ok s1 =>
          rw [hb] at h
          exact whN_mono (n := n) h k
        | er x => rw [hb] at h; cases h
        | no => rw [hb] at h; cases h
      · rename_i hv
        rw [if_neg hv]
        exact h
    | er x => rw [hc] at h; cases h
    | no => rw [hc] at h; cases h
theorem whO_of {σ : Type} {c : σ → O Bool} {b : σ → O σ} {n : Nat} {s x : σ} (h : whN c b n s = .ok x) : whO c b s = .ok x := by
  have hx : ∃ n x, whN c b n s = .ok x := ⟨n, x, h⟩
  unfold whO
  rw [dif_pos hx]
  obtain ⟨y, hy⟩ := Classical.choose_spec hx
  have h1 := whN_mono h (Classical.choose hx)
  have h2 := whN_mono hy n
  rw [Nat.add_comm] at h2
  rw [h1] at h2
  cases h2
  exact hy
theorem SmB.whN {σ J : Type} {I : σ → J → Env} {c : σ → O Bool} {bt : σ → O σ} {mc : M Bool} {b : MS} (hc : ∀ s j, SmB (fun _ => True) (fun x r => r = .ok x (I s j)) (mc (I s j)) (c s)) (hb : ∀ s j, c s = .ok true → SmB E (NC I) (b (I s j)) (bt s)) : ∀ (n : Nat) (s x : σ) (j : J), G.whN c bt n s = .ok x → ∃ j', whL mc b n (I s j) = .nx (I x j')
  | 0, s, x, j, e => by cases e
  | n + 1, s, x, j, e => by
    unfold G.whN at e
    have h1 := hc s j
    have h2 := hb s j
    unfold whL MS.of
    cases hs : c s with
    | ok v =>
      rw [hs] at e h1 h2
      have h1 : mc (I s j) = .ok v (I s j) := h1
      rw [h1]
      simp only [O.ok_bind] at e ⊢
      cases v with
      | true =>
        simp only [if_true] at e ⊢
        cases hbs : bt s with
        | ok s1 =>
          rw [hbs] at e
          have h3 := h2 rfl
          rw [hbs] at h3
          obtain ⟨j1, e1⟩ := h3
          have ih := SmB.whN hc hb n s1 x j1 e
          rcases e1 with e1 | e1 <;> simp only [e1] <;> exact ih
        | er x => rw [hbs] at e; cases e
        | no => rw [hbs] at e; cases e
      | false =>
        simp only [Bool.false_eq_true, if_false] at e ⊢
        cases e
        exact ⟨j, rfl⟩
    | er x => rw [hs] at e; cases e
    | no => rw [hs] at e; cases e
theorem Sm.whN {σ J : Type} {I : σ → J → Env} {c : σ → O Bool} {bt : σ → O σ} {mc : M Bool} {b : MS} (hc : ∀ s j, Sm (fun _ => True) (fun x r => r = .ok x (I s j)) (mc (I s j)) (c s)) (hb : ∀ s j, c s = .ok true → Sm E (NC I) (b (I s j)) (bt s)) : ∀ (n : Nat) (s x : σ) (j : J), G.whN c bt n s = .ok x → ∃ j', whL mc b n (I s j) = .nx (I x j') := by
  unfold Sm at *
  exact SmB.whN hc hb
theorem SmB.wh {σ J : Type} {I : σ → J → Env} {c : σ → O Bool} {bt : σ → O σ} {mc : M Bool} {b : MS} (hc : ∀ s j, SmB (fun _ => True) (fun x r => r = .ok x (I s j)) (mc (I s j)) (c s)) (hb : ∀ s j, c s = .ok true → SmB E (NC I) (b (I s j)) (bt s)) (s : σ) (j : J) : SmB E (NX I) (mWh mc b (I s j)) (whO c bt s) := by
  cases e : whO c bt s with
  | ok x =>
    have hx : ∃ n x, G.whN c bt n s = .ok x := by
      unfold whO at e
      split at e
      · assumption
      · cases e
    obtain ⟨n, y, hy⟩ := hx
    obtain ⟨j', e1⟩ := SmB.whN hc hb n s y j hy
    have e2 := whO_of hy
    rw [e] at e2
    cases e2
    refine ⟨j', ?_⟩
    have hn : ∃ n, whL mc b n (I s j) ≠ .no := ⟨n, by rw [e1]; simp⟩
    unfold mWh
    rw [dif_pos hn]
    have k1 := whL_mono (c := mc) (b := b) (n := n) (ρ := I s j) (by rw [e1]; simp) (Classical.choose hn)
    have k2 := whL_mono (c := mc) (b := b) (Classical.choose_spec hn) n
    rw [Nat.add_comm] at k2
    rw [← k2, k1, e1]
  | er x =>
    unfold whO at e
    split at e
    · rename_i hx
      obtain ⟨y, hy⟩ := Classical.choose_spec hx
      rw [hy] at e
      cases e
    · cases e
  | no => trivial
theorem Sm.wh {σ J : Type} {I : σ → J → Env} {c : σ → O Bool} {bt : σ → O σ} {mc : M Bool} {b : MS} (hc : ∀ s j, Sm (fun _ => True) (fun x r => r = .ok x (I s j)) (mc (I s j)) (c s)) (hb : ∀ s j, c s = .ok true → Sm E (NC I) (b (I s j)) (bt s)) (s : σ) (j : J) : Sm E (NX I) (mWh mc b (I s j)) (whO c bt s) := by
  unfold Sm at *
  exact SmB.wh hc hb s j
end
end G
namespace G
/-! ### try -/
def tryO {α : Type} (tb : O α) (caught : Nat → Bool) (th : O α) : O α := match tb with
  | .ok z => .ok z
  | .er x => if caught x.c = true then noX th else .er x
  | .no => .no
theorem SmB.tr {γ J : Type} {E : Env → Prop} {E1 : J → Env} {P : γ → SR → Prop} {caught : Nat → Bool} {b h : MS} {tb th : O γ} {ρ : Env} (hP : ∀ z x ρ, P z (.er x ρ) → False) (hb : SmB (fun ρ => ∃ j, ρ = E1 j) P (b ρ) tb) (hE : ∀ j, E (E1 j)) (hh : ∀ j, SmB E P (h (E1 j)) th) : SmB E P (mTry caught b h ρ) (tryO tb caught th) := by
  unfold tryO mTry
  cases tb with
  | ok z =>
    have hb : P z (b ρ) := hb
    cases hr : b ρ with
    | er x ρ1 => rw [hr] at hb; exact (hP _ _ _ hb).elim
    | nx ρ1 => rw [hr] at hb; exact hb
    | rt d ρ1 => rw [hr] at hb; exact hb
    | bk ρ1 => rw [hr] at hb; exact hb
    | ct ρ1 => rw [hr] at hb; exact hb
    | no => rw [hr] at hb; exact hb
  | er x =>
    obtain ⟨_, e, j, rfl⟩ := hb
    rw [e]
    show SmB E P (if caught x.c = true then noE h (E1 j) else .er x (E1 j)) _
    simp only
    split
    · have := hh j
      cases th with
      | ok z =>
        have this : P z (h (E1 j)) := this
        show P z (noE h (E1 j))
        unfold noE
        cases hr : h (E1 j) with
        | er x ρ1 => rw [hr] at this; exact (hP _ _ _ this).elim
        | nx ρ1 => rw [hr] at this; exact this
        | rt d ρ1 => rw [hr] at this; exact this
        | bk ρ1 => rw [hr] at this; exact this
        | ct ρ1 => rw [hr] at this; exact this
        | no => rw [hr] at this; exact this
      | er z => trivial
      | no => trivial
    · exact ⟨_, rfl, hE j⟩
  | no => trivial
theorem Sm.tr {γ J : Type} {E : Env → Prop} {E1 : J → Env} {P : γ → SR → Prop} {caught : Nat → Bool} {b h : MS} {tb th : O γ} {ρ : Env} (hP : ∀ z x ρ, P z (.er x ρ) → False) (hb : Sm (fun ρ => ∃ j, ρ = E1 j) P (b ρ) tb) (hE : ∀ j, E (E1 j)) (hh : ∀ j, Sm E P (h (E1 j)) th) : Sm E P (mTry caught b h ρ) (tryO tb caught th) := by
  unfold Sm at *
  exact SmB.tr hP hb hE hh
theorem SO.ner {σ ρτ J : Type} {I : σ → J → Env} {Q : ρτ → SR → Prop} (z : Sum ρτ σ) (x : Ex) (ρ : Env) (h : SO I Q z (.er x ρ)) : False := by
  cases z with
  | inl v => obtain ⟨⟨d, ρ1, e⟩, _⟩ := h; cases e
  | inr s => obtain ⟨ρ1, e⟩ := h; cases e
theorem RT.rt {γ : Type} {f : γ → D} {o : γ → List D} {ix : List Nat} {b : γ} {r : SR} (h : RT f o ix b r) : (∃ d ρ, r = .rt d ρ) ∧ RT f o ix b r := by
  obtain ⟨ρ, e, h1⟩ := h
  exact ⟨⟨_, _, e⟩, ρ, e, h1⟩
def cD (d : D) : O D := .ok d
end G
/-! T1: typed data: how they lie, how they are compared, taken. -/
namespace G
open PySem PySem.Spec PyProof.Rows L2
/-! ### how typed data lie -/
def eU (_ : Unit) : D := .non
def eD (d : D) : D := d
def eL {α : Type} (e : α → D) (xs : List α) : D := .lst (xs.map e)
def eT {α : Type} (e : α → D) (xs : List α) : D := .tup (xs.map e)
def eP {α β : Type} (e : α → D) (f : β → D) (x : α × β) : D := .tup [e x.1, f x.2]
def eP3 {α β γ : Type} (e : α → D) (f : β → D) (g : γ → D) (x : α × β × γ) : D := .tup [e x.1, f x.2.1, g x.2.2]
def eP4 {α β γ δ : Type} (e : α → D) (f : β → D) (g : γ → D) (h : δ → D) (x : α × β × γ × δ) : D := .tup [e x.1, f x.2.1, g x.2.2.1, h x.2.2.2]
def eP5 {α β γ δ ε : Type} (e : α → D) (f : β → D) (g : γ → D) (h : δ → D) (i : ε → D) (x : α × β × γ × δ × ε) : D := .tup [e x.1, f x.2.1, g x.2.2.1, h x.2.2.2.1, i x.2.2.2.2]
def eO {α : Type} (e : α → D) : Option α → D
  | none => .non
  | some x => e x
def pL {α : Type} (p : α → PyData) (xs : List α) : PyData := .list (xs.map p)
def pT {α : Type} (p : α → PyData) (xs : List α) : PyData := .tuple (xs.map p)
def pP {α β : Type} (e : α → PyData) (f : β → PyData) (x : α × β) : PyData := .tuple [e x.1, f x.2]
def pP3 {α β γ : Type} (e : α → PyData) (f : β → PyData) (g : γ → PyData) (x : α × β × γ) : PyData := .tuple [e x.1, f x.2.1, g x.2.2]
def pP4 {α β γ δ : Type} (e : α → PyData) (f : β → PyData) (g : γ → PyData) (h : δ → PyData) (x : α × β × γ × δ) : PyData := .tuple [e x.1, f x.2.1, g x.2.2.1, h x.2.2.2]
/-- plain data: of one kind, told apart, compared -/
structure Ety {α : Type} (e : α → D) (p : α → PyData) (n : Nat) : Prop where
  py : ∀ x, toPy (e x) = some (p x)
  dp : ∀ x, (p x).depth ≤ n
  ev : ∀ x y, PyData.eqv (p x) (p y) = true ↔ x = y
  al : ∀ x y, PySem.W.alike (p x) (p y) = true
  nn : ∀ x, isNn (p x) = false
theorem ety_int : Ety D.int PyData.int 0 := ⟨fun _ => rfl, fun _ => Nat.le_refl _, fun x y => by simp [PyData.eqv], fun _ _ => rfl, fun _ => rfl⟩
theorem ety_str : Ety D.str PyData.str 0 := ⟨fun _ => rfl, fun _ => Nat.le_refl _, fun x y => by simp [PyData.eqv], fun _ _ => rfl, fun _ => rfl⟩
theorem Ety.pyL {α : Type} {e : α → D} {p : α → PyData} {n : Nat} (h : Ety e p n) : ∀ xs : List α, toPyL (xs.map e) = some (xs.map p)
  | [] => rfl
  | x :: xs => by simp only [List.map_cons, toPyL, h.py, h.pyL xs]
theorem Ety.dpL {α : Type} {e : α → D} {p : α → PyData} {n : Nat} (h : Ety e p n) : ∀ xs : List α, PyData.depthAll (xs.map p) ≤ n + 1
  | [] => Nat.zero_le _
  | x :: xs => by
    have h1 := h.dp x
    have h2 := h.dpL xs
    simp only [List.map_cons, PyData.depthAll]
    omega
theorem Ety.evL {α : Type} {e : α → D} {p : α → PyData} {n : Nat} (h : Ety e p n) : ∀ xs ys : List α, PyData.eqvAll (xs.map p) (ys.map p) = true ↔ xs = ys
  | [], [] => by simp [PyData.eqvAll]
  | [], _ :: _ => by simp [PyData.eqvAll]
  | _ :: _, [] => by simp [PyData.eqvAll]
  | x :: xs, y :: ys => by simp [PyData.eqvAll, h.ev, h.evL xs ys]
theorem Ety.alL {α : Type} {e : α → D} {p : α → PyData} {n : Nat} (h : Ety e p n) : ∀ xs ys : List α, PySem.W.alikeAll (xs.map p) (ys.map p) = true
  | [], _ => by simp [PySem.W.alikeAll]
  | _ :: _, [] => by simp [PySem.W.alikeAll]
  | x :: xs, y :: ys => by simp [PySem.W.alikeAll, h.al, h.alL xs ys]
theorem ety_lst {α : Type} {e : α → D} {p : α → PyData} {n : Nat} (h : Ety e p n) : Ety (eL e) (pL p) (n + 2) where
  py x := by simp only [eL, toPy, h.pyL, pL, Option.map]
  dp x := by have := h.dpL x; simp only [pL, PyData.depth]; omega
  ev x y := by simp only [pL, PyData.eqv, h.evL]
  al x y := by simp only [pL, PySem.W.alike, h.alL]
  nn x := rfl
theorem ety_p {α β : Type} {e : α → D} {p : α → PyData} {n : Nat} {f : β → D} {q : β → PyData} {m : Nat} (h : Ety e p n) (k : Ety f q m) : Ety (eP e f) (pP p q) (n + m + 3) where
  py x := by simp only [eP, toPy, toPyL, h.py, k.py, pP, Option.map]
  dp x := by have := h.dp x.1; have := k.dp x.2; simp only [pP, PyData.depth, PyData.depthAll]; omega
  ev x y := by simp [pP, PyData.eqv, PyData.eqvAll, h.ev, k.ev, Prod.ext_iff]
  al x y := by simp [pP, PySem.W.alike, PySem.W.alikeAll, h.al, k.al]
  nn x := rfl
section
variable {α : Type} {e : α → D} {p : α → PyData} {n : Nat}
theorem Ety.tk (h : Ety e p n) {x y : α} (q : PySem.W.keyToks (p x) = PySem.W.keyToks (p y)) : x = y := by
  have h1 := (PySem.W.toks_eqv (p x) (p y) (h.al x y)).2
  cases hv : PyData.eqv (p x) (p y) with
  | true => exact (h.ev x y).mp hv
  | false =>
    have h2 := h1 hv [] [.inl 0]
    rw [q] at h2
    have a1 := PySem.W.lex_pre (PySem.W.keyToks (p y)) [] [.inl 0]
    have a2 := PySem.W.lex_pre (PySem.W.keyToks (p y)) [] []
    rw [List.append_nil] at a2 h2 a1
    rw [a2] at h2
    rw [a1] at h2
    exact absurd h2 (by decide)
theorem Ety.low (h : Ety e p n) (hn : n ≤ 60) (x y : α) : lowD (p x) (p y) = true := by
  have := h.dp x
  simp only [lowD, decide_eq_true_eq]
  omega
theorem Ety.eqb [DecidableEq α] (h : Ety e p n) (x y : α) : PyData.eqv (p x) (p y) = decide (x = y) := by
  rw [Bool.eq_iff_iff, h.ev, decide_eq_true_iff]
theorem Ety.eq [DecidableEq α] (h : Ety e p n) (hn : n ≤ 60 := by decide) (x y : α) : dEq (e x) (e y) = some (.bl (decide (x = y))) := by
  simp [dEq, dDat, h.py, gEq, h.low hn, h.eqb]
theorem Ety.ne [DecidableEq α] (h : Ety e p n) (hn : n ≤ 60 := by decide) (x y : α) : dNe (e x) (e y) = some (.bl (!decide (x = y))) := by
  simp [dNe, dDat, h.py, gEq, h.low hn, h.eqb]
/-- x < y -/
def lt {α : Type} (p : α → PyData) (x y : α) : Bool := PySem.W.dataLt (p x) (p y)
theorem Ety.lt (h : Ety e p n) (hn : n ≤ 60 := by decide) (x y : α) : dLt (e x) (e y) = some (.bl (G.lt p x y)) := by
  simp [dLt, dDat, h.py, gCmp, h.low hn, h.al, h.nn, G.lt]
theorem Ety.gt (h : Ety e p n) (hn : n ≤ 60 := by decide) (x y : α) : dGt (e x) (e y) = some (.bl (G.lt p y x)) := by
  simp [dGt, dDat, h.py, gCmp, h.low hn, h.al, h.nn, G.lt]
theorem Ety.le (h : Ety e p n) (hn : n ≤ 60 := by decide) (x y : α) : dLe (e x) (e y) = some (.bl (!G.lt p y x)) := by
  simp [dLe, dDat, h.py, gCmp, h.low hn, h.al, h.nn, G.lt]
theorem Ety.ge (h : Ety e p n) (hn : n ≤ 60 := by decide) (x y : α) : dGe (e x) (e y) = some (.bl (!G.lt p x y)) := by
  simp [dGe, dDat, h.py, gCmp, h.low hn, h.al, h.nn, G.lt]
theorem Ety.anyL [DecidableEq α] (h : Ety e p n) (x : α) : ∀ xs : List α, (xs.map p).any (fun y => PyData.eqv y (p x)) = decide (x ∈ xs)
  | [] => rfl
  | y :: ys => by
    rw [List.map_cons, List.any_cons, h.anyL x ys, h.eqb]
    by_cases q : y = x
    · simp [q]
    · simp [q, show ¬ x = y from fun z => q z.symm]
theorem Ety.dpm (h : Ety e p n) (hn : n ≤ 60) (x : α) (xs : List α) : min (PyData.depthAll (xs.map p)) (p x).depth ≤ 60 := by
  have := h.dp x
  omega
theorem Ety.inL [DecidableEq α] (h : Ety e p n) (hn : n ≤ 60 := by decide) (x : α) (xs : List α) : dIn (e x) (.lst (xs.map e)) = some (.bl (decide (x ∈ xs))) := by
  have h0 : dSg false (e x) (.lst (xs.map e)) = none := by cases e x <;> rfl
  simp [dIn, dOr2, h0, dDat, h.py, toPy, h.pyL, gIn, h.dpm hn, h.anyL]
theorem Ety.ninL [DecidableEq α] (h : Ety e p n) (hn : n ≤ 60 := by decide) (x : α) (xs : List α) : dNin (e x) (.lst (xs.map e)) = some (.bl (!decide (x ∈ xs))) := by
  have h0 : dSg true (e x) (.lst (xs.map e)) = none := by cases e x <;> rfl
  simp [dNin, dOr2, h0, dDat, h.py, toPy, h.pyL, gIn, h.dpm hn, h.anyL]
theorem Ety.ninT [DecidableEq α] (h : Ety e p n) (hn : n ≤ 60 := by decide) (x : α) (xs : List α) : dNin (e x) (.tup (xs.map e)) = some (.bl (!decide (x ∈ xs))) := by
  have h0 : dSg true (e x) (.tup (xs.map e)) = none := by cases e x <;> rfl
  simp [dNin, dOr2, h0, dDat, h.py, toPy, h.pyL, gIn, h.dpm hn, h.anyL]
end
/-! sorted -/
def leB {α : Type} (p : α → PyData) (a b : α) : Bool := !G.lt p b a
def srt {α : Type} (p : α → PyData) (xs : List α) : List α := xs.mergeSort (leB p)
def Srt1 {α : Type} (p : α → PyData) : Prop := (∀ x, tup1 (p x) = true) ∨ (∀ x, notNT (p x) = true)
theorem srtD_map {α : Type} {e : α → D} {p : α → PyData} (xs : List α) : srtD (xs.map e) (xs.map p) = (srt p xs).map e := by
  have hz : (xs.map e).zip (xs.map p) = xs.map fun x => (e x, p x) := by
    induction xs with
    | nil => rfl
    | cons x xs ih => simp only [List.map_cons, List.zip_cons_cons, ih]
  unfold srtD srt
  have h2 := List.map_mergeSort (r := leB p) (s := PySem.W.dataLe false Prod.snd) (f := fun x => (e x, p x)) (l := xs) (fun a _ b _ => rfl)
  rw [hz, ← h2, List.map_map]
  rfl
theorem Ety.sortOk {α : Type} {e : α → D} {p : α → PyData} {n : Nat} (h : Ety e p n) (hn : n ≤ 60) (xs : List α) (h1 : (xs.map p).all tup1 = true ∨ (xs.map p).all notNT = true) : sortOk (xs.map p) = true := by
  have a1 : ((xs.map p).all fun a => (xs.map p).all fun b => PySem.W.alike a b) = true := by
    rw [List.all_map]
    exact List.all_eq_true.mpr fun x _ => by
      simp only [Function.comp]
      rw [List.all_map]
      exact List.all_eq_true.mpr fun y _ => h.al x y
  have a2 : ((xs.map p).all fun a => decide (a.depth ≤ 60)) = true := by
    rw [List.all_map]
    exact List.all_eq_true.mpr fun x _ => by
      have := h.dp x
      simp only [Function.comp, decide_eq_true_eq]
      omega
  unfold G.sortOk
  rw [a1, a2]
  rcases h1 with h1 | h1 <;> rw [h1] <;> simp
/-- sorted, of tuples of any length: none of them empty -/
def srtO {α : Type} (p : α → PyData) (xs : List α) : O (List α) := if (xs.map p).all tup1 = true then .ok (srt p xs) else .no
theorem Ety.srtO {α : Type} {e : α → D} {p : α → PyData} {n : Nat} (h : Ety e p n) (hn : n ≤ 60 := by decide) (xs : List α) : Os (dSorted [.lst (xs.map e)]) (eL e) (srtO p xs) := by
  unfold G.srtO
  split
  · rename_i h1
    have ok := h.sortOk hn xs (.inl h1)
    show dSorted _ = some (.lst ((srt p xs).map e))
    simp only [dSorted, h.pyL, Option.bind, ok, if_true, srtD_map]
  · trivial
/-! ### data taken as of a kind -/
structure Cst {α : Type} (e : α → D) (c : D → O α) : Prop where
  sd : ∀ d x, c d = .ok x → d = e x
  ne : ∀ d x, c d ≠ .er x
  cp : ∀ x, c (e x) = .ok x
def cI : D → O Int
  | .int i => .ok i
  | _ => .no
def cS : D → O Str
  | .str i => .ok i
  | _ => .no
def cB : D → O Bool
  | .bl i => .ok i
  | _ => .no
def mapO {α β : Type} (f : α → O β) : List α → O (List β)
  | [] => .ok []
  | x :: xs => (f x).bind fun y => (mapO f xs).bind fun ys => .ok (y :: ys)
def cL {α : Type} (c : D → O α) : D → O (List α)
  | .lst xs => mapO c xs
  | _ => .no
def cT {α : Type} (c : D → O α) : D → O (List α)
  | .tup xs => mapO c xs
  | _ => .no
def cP {α β : Type} (c : D → O α) (d : D → O β) : D → O (α × β)
  | .tup [x, y] => (c x).bind fun a => (d y).bind fun b => .ok (a, b)
  | _ => .no
def cP3 {α β γ : Type} (c : D → O α) (d : D → O β) (f : D → O γ) : D → O (α × β × γ)
  | .tup [x, y, z] => (c x).bind fun a => (d y).bind fun b => (f z).bind fun g => .ok (a, b, g)
  | _ => .no
def cO {α : Type} (c : D → O α) : D → O (Option α)
  | .non => .ok none
  | d => (c d).bind fun x => .ok (some x)
theorem cst_int : Cst D.int cI where
  sd d x h := by
    unfold cI at h
    split at h
    · cases h; rfl
    · cases h
  ne d x h := by
    unfold cI at h
    split at h
    · cases h
    · cases h
  cp _ := rfl
theorem cst_str : Cst D.str cS where
  sd d x h := by
    unfold cS at h
    split at h
    · cases h; rfl
    · cases h
  ne d x h := by
    unfold cS at h
    split at h
    · cases h
    · cases h
  cp _ := rfl
theorem bind_ok {α β : Type} {m : O α} {f : α → O β} {b : β} (h : m.bind f = .ok b) : ∃ a, m = .ok a ∧ f a = .ok b := by
  cases m with
  | ok a => exact ⟨a, rfl, h⟩
  | er x => cases h
  | no => cases h
theorem bind_er {α β : Type} {m : O α} {f : α → O β} {x : Ex} (h : m.bind f = .er x) : m = .er x ∨ ∃ a, m = .ok a ∧ f a = .er x := by
  cases m with
  | ok a => exact .inr ⟨a, rfl, h⟩
  | er y =>
    have h : (O.er y : O β) = .er x := h
    cases h
    exact .inl rfl
  | no => cases h
section
variable {α β γ : Type} {e : α → D} {c : D → O α} {f : β → D} {d : D → O β} {g : γ → D} {k : D → O γ}
theorem Cst.mapS (h : Cst e c) : ∀ (ds : List D) (xs : List α), mapO c ds = .ok xs → ds = xs.map e
  | [], xs, q => by cases q; rfl
  | z :: ds, xs, q => by
    obtain ⟨a, e1, q⟩ := bind_ok q
    obtain ⟨ys, e2, q⟩ := bind_ok q
    cases q
    rw [List.map_cons, h.sd z a e1, h.mapS ds ys e2]
theorem Cst.mapN (h : Cst e c) : ∀ (ds : List D) (x : Ex), mapO c ds ≠ .er x
  | [], x, q => by cases q
  | z :: ds, x, q => by
    rcases bind_er q with q | ⟨a, _, q⟩
    · exact h.ne _ _ q
    · rcases bind_er q with q | ⟨b, _, q⟩
      · exact h.mapN ds x q
      · cases q
theorem Cst.mapC (h : Cst e c) : ∀ xs : List α, mapO c (xs.map e) = .ok xs
  | [] => rfl
  | x :: xs => by simp only [List.map_cons, mapO, h.cp, h.mapC xs, O.ok_bind]
theorem cst_tup (h : Cst e c) : Cst (eT e) (cT c) where
  sd d x q := by
    unfold cT at q
    split at q
    · rw [h.mapS _ _ q]; rfl
    · cases q
  ne d x q := by
    unfold cT at q
    split at q
    · exact h.mapN _ _ q
    · cases q
  cp x := h.mapC x
theorem cst_p (h : Cst e c) (h2 : Cst f d) : Cst (eP e f) (cP c d) where
  sd z x q := by
    unfold cP at q
    split at q
    · obtain ⟨a, e1, q⟩ := bind_ok q
      obtain ⟨b, e2, q⟩ := bind_ok q
      cases q
      rw [h.sd _ _ e1, h2.sd _ _ e2]
      rfl
    · cases q
  ne z x q := by
    unfold cP at q
    split at q
    · rcases bind_er q with q | ⟨a, _, q⟩
      · exact h.ne _ _ q
      · rcases bind_er q with q | ⟨a, _, q⟩
        · exact h2.ne _ _ q
        · cases q
    · cases q
  cp x := by simp only [eP, cP, h.cp, h2.cp, O.ok_bind]
end
end G
/-! T2: typed operations. -/
namespace G
open PySem PySem.Spec PyProof.Rows L2
/-! ### pure readings -/
theorem notB_ok {a : M Bool} {b : Bool} {ρ ρ1 : Env} (h : a ρ = .ok b ρ1) : mNot a ρ = .ok (!b) ρ1 := by simp only [mNot, M.bind, h, M.ret]
theorem andB_ok {a c : M Bool} {x y : Bool} {ρ : Env} (h : a ρ = .ok x ρ) (h2 : c ρ = .ok y ρ) : mAnd a c ρ = .ok (x && y) ρ := by
  cases x <;> simp [mAnd, M.bind, h, h2, M.ret]
theorem orB_ok {a c : M Bool} {x y : Bool} {ρ : Env} (h : a ρ = .ok x ρ) (h2 : c ρ = .ok y ρ) : mOr a c ρ = .ok (x || y) ρ := by
  cases x <;> simp [mOr, M.bind, h, h2, M.ret]
theorem mIf_ok {α : Type} {e : α → D} {c : M Bool} {a b : M D} {x : Bool} {y z : α} {ρ : Env} (h : c ρ = .ok x ρ) (h2 : a ρ = .ok (e y) ρ) (h3 : b ρ = .ok (e z) ρ) : mIf c a b ρ = .ok (e (if x = true then y else z)) ρ := by
  cases x <;> simp [mIf, M.bind, h, h2, h3]
theorem m2L_okT {f : D → D → Option D} {i : Nat} {b : M D} {x y z : D} {ρ : Env} (h1 : ρ[i]? = some (some x)) (h2 : b ρ = .ok y ρ) (h3 : f x y = some z) : m2L f i b ρ = .ok z ρ := by
  have : mV i ρ = .ok x ρ := by unfold mV; rw [h1]
  simp only [m2L, M.bind, this, h2, h3, M.opt]
/-- (number, thing) -/
def enL {α : Type} (xs : List α) : List (Int × α) := (List.range xs.length).zipWith (fun (k : Nat) x => ((k : Int), x)) xs
theorem enD_map {α : Type} {e : α → D} (xs : List α) : enD (xs.map e) = (enL xs).map (eP D.int e) := by
  unfold enD enL
  rw [List.map_zipWith, List.zipWith_map_right, List.length_map]
  rfl
theorem pt_ok {a : M D} {i : Int} {ρ : Env} (h : a ρ = .ok (.int i) ρ) : mPt a ρ = .ok (some i) ρ := by simp only [mPt, M.bind, h, dI, M.opt]
theorem pn_ok {ρ : Env} : (M.ret none : M (Option Int)) ρ = .ok none ρ := rfl
theorem sl_ok' {a : M D} {l h : M (Option Int)} {d z : D} {x y : Option Int} {ρ : Env} (h1 : a ρ = .ok d ρ) (h2 : l ρ = .ok x ρ) (h3 : h ρ = .ok y ρ) (h4 : dSl d x y = some z) : mSl a l h ρ = .ok z ρ := by simp only [mSl, M.bind, h1, h2, h3, h4, M.opt]
/-! ### operations -/
def opD (o : Option D) : O D := match o with
  | some d => .ok d
  | none => .no
def opB (o : Option D) : O Bool := match o with
  | some (.bl b) => .ok b
  | _ => .no
def opI (o : Option D) : O Int := match o with
  | some (.int b) => .ok b
  | _ => .no
def opS (o : Option D) : O Str := match o with
  | some (.str b) => .ok b
  | _ => .no
theorem os_D {o : Option D} : Os o eD (opD o) := by cases o <;> trivial
theorem os_B {o : Option D} : Os o D.bl (opB o) := by
  unfold opB
  split <;> trivial
theorem os_I {o : Option D} : Os o D.int (opI o) := by
  unfold opI
  split <;> trivial
theorem os_S {o : Option D} : Os o D.str (opS o) := by
  unfold opS
  split <;> trivial
@[irreducible] def grd {α : Type} (p : Prop) [Decidable p] (a : α) : O α := if p then .ok a else .no
theorem os_grd {α δ : Type} {o : Option δ} {f : α → δ} {p : Prop} [Decidable p] {a : α} (h : p → o = some (f a)) : Os o f (grd p a) := by
  unfold grd
  split
  · exact h ‹_›
  · trivial
@[simp] theorem grd_t {α : Type} {p : Prop} [Decidable p] {a : α} (h : p) : grd p a = .ok a := by unfold grd; exact if_pos h
theorem grd_ok {α : Type} {p : Prop} [Decidable p] {a b : α} (h : grd p a = .ok b) : p ∧ a = b := by
  unfold grd at h
  split at h
  · cases h; exact ⟨‹_›, rfl⟩
  · cases h
def ofO {α : Type} (o : Option α) : O α := match o with
  | some a => .ok a
  | none => .no
theorem os_of {α δ : Type} {o : Option δ} {f : α → δ} {x : Option α} (h : o = x.map f) : Os o f (ofO x) := by
  subst h
  cases x <;> trivial
@[simp] theorem ofO_some {α : Type} (a : α) : ofO (some a) = .ok a := rfl
/-- numbers -/
def mulI (i j : Int) : O Int := grd (CMul i j) (i * j)
theorem os_mul (i j : Int) : Os (dMul (.int i) (.int j)) D.int (mulI i j) := os_grd fun h => mul_ii h
def fdI (i j : Int) : O Int := grd (CDivN i j) (i.fdiv j)
def mdI (i j : Int) : O Int := grd (j ≠ 0) (i.fmod j)
theorem os_md (i j : Int) : Os (dMd (.int i) (.int j)) D.int (mdI i j) := os_grd fun h => md_ii h
def pwI (i j : Int) : O Int := grd (CPow i j) (i ^ j.toNat)
def dmI (i j : Int) : O (Int × Int) := grd (CDiv i j) (i / j, i % j)
theorem os_dm (i j : Int) : Os (dDm [.int i, .int j]) (eP D.int D.int) (dmI i j) := os_grd fun h => dm_ii h
def absI (i : Int) : Int := if i < 0 then -i else i
def maxI (i j : Int) : Int := if j > i then j else i
def minI (i j : Int) : Int := if j < i then j else i
theorem neg_i (i : Int) : dNeg (.int i) = some (.int (-i)) := rfl
theorem abs_i (i : Int) : dAbs [.int i] = some (.int (absI i)) := rfl
theorem max_ii (i j : Int) : dMax2 [.int i, .int j] = some (.int (maxI i j)) := rfl
theorem min_ii (i j : Int) : dMin2 [.int i, .int j] = some (.int (minI i j)) := rfl
theorem not_b (b : Bool) : dNot (.bl b) = some (.bl (!b)) := rfl
theorem all_l (xs : List Bool) : dAll [eL D.bl xs] = some (.bl (xs.all id)) := by simp only [eL, dAll, dBls_map, Option.map]
def maxO : List Int → O Int
  | n :: ns => .ok (maxL n ns)
  | [] => .no
def minO : List Int → O Int
  | n :: ns => .ok (minL n ns)
  | [] => .no
section
variable {α : Type} {e : α → D}
theorem len_l (xs : List α) : dLen [eL e xs] = some (.int xs.length) := by simp [eL, dLen]
theorem len_t (xs : List α) : dLen [eT e xs] = some (.int xs.length) := by simp [eT, dLen]
theorem len_sc (xs : List Int) : dLen [.scr xs] = some (.int xs.length) := rfl
def lenS (x : Str) : O Int := grd (x.length ≤ sizeLine) x.length
theorem os_lenS (x : Str) : Os (dLen [.str x]) D.int (lenS x) := os_grd fun h => by simp [dLen, h]
def ixL (xs : List α) (i : Int) : O α := ofO (atI xs i)
theorem os_ixL (xs : List α) (i : Int) : Os (dIx (eL e xs) (.int i)) e (ixL xs i) := os_of (by simp only [eL, dIx, atI_map])
theorem os_ixC (xs : List Int) (i : Int) : Os (dIx (.scr xs) (.int i)) D.int (ixL xs i) := os_of rfl
def ixS (x : Str) (i : Int) : O Str := if x.length ≤ sizeLine then ofO ((atI x.cps.toList i).map fun c => ⟨#[c]⟩) else .no
theorem os_ixS (x : Str) (i : Int) : Os (dIx (.str x) (.int i)) D.str (ixS x i) := by
  unfold ixS
  split
  · rename_i h
    refine os_of ?_
    simp only [dIx, h, if_true, Option.map_map]
    rfl
  · trivial
theorem sl_sc (xs : List Int) (lo hi : Option Int) : dSl (.scr xs) lo hi = some (eL D.int (cutL xs lo hi)) := rfl
def slS (x : Str) (lo hi : Option Int) : O Str := grd (x.length ≤ sizeLine) (cutS x lo hi)
theorem os_slS (x : Str) (lo hi : Option Int) : Os (dSl (.str x) lo hi) D.str (slS x lo hi) := os_grd fun h => by simp only [dSl, h, if_true]
def catL (xs ys : List α) : O (List α) := grd (xs.length + ys.length ≤ sizeLine) (xs ++ ys)
theorem os_catL (xs ys : List α) : Os (dAdd (eL e xs) (eL e ys)) (eL e) (catL xs ys) := os_grd fun h => by simp [eL, dAdd, h]
def addS (x y : Str) : O Str := grd (x.length + y.length ≤ sizeLine) (x ++ y)
theorem os_addS (x y : Str) : Os (dAdd (.str x) (.str y)) D.str (addS x y) := os_grd fun h => by simp [dAdd, h]
def repL (xs : List α) (k : Int) : O (List α) := grd (-(2 ^ 63) ≤ k ∧ k < 2 ^ 63 ∧ xs.length * k.toNat ≤ sizeLine) (List.replicate k.toNat xs).flatten
theorem tuple_l (xs : List α) : dTupOf [eL e xs] = some (eT e xs) := rfl
theorem it_l (xs : List α) : dIt (eL e xs) = some (xs.map e) := rfl
theorem it_t (xs : List α) : dIt (eT e xs) = some (xs.map e) := rfl
theorem sq_l (xs : List α) : dSq (eL e xs) = some (xs.map e) := rfl
/-- the signs of a text -/
def sgs (x : Str) : List Str := x.cps.toList.map fun c => ⟨#[c]⟩
theorem it_s (x : Str) : dIt (.str x) = some ((sgs x).map D.str) := by simp [dIt, sgs]
/-- any thing gone through -/
def itD (d : D) : O (List D) := ofO (dIt d)
theorem os_itD (d : D) : Os (dIt d) (List.map eD) (itD d) := os_of (by
  cases dIt d with
  | none => rfl
  | some xs => exact congrArg some (List.map_id xs).symm)
def sqD (d : D) : O (List D) := ofO (dSq d)
def joinO (a : Str) (xs : List Str) : O Str := grd ((xs.map (·.length)).sum + xs.length * a.length ≤ 16777216) (Txt.join a xs)
theorem os_joinL (a : Str) (xs : List Str) : Os (dJo (.str a) (eL D.str xs)) D.str (joinO a xs) := os_grd fun h => by simp only [eL, dJo, dStrs_map, Option.bind]; rw [if_pos h]
/-- one sign in a text -/
def inS (x y : Str) : O Bool := match x.cps.toList with
  | [c] => .ok (decide (c ∈ y.cps.toList))
  | _ => .no
theorem os_inS (x y : Str) : Os (dIn (.str x) (.str y)) D.bl (inS x y) := by
  unfold inS
  split
  · rename_i c h
    show dIn _ _ = _
    simp [dIn, dOr2, dSg, h]
  · trivial
def ninS (x y : Str) : O Bool := match x.cps.toList with
  | [c] => .ok (!decide (c ∈ y.cps.toList))
  | _ => .no
end
def strI (i : Int) : O Str := opS (dStr [.int i])
def fmI (i : Int) : O Str := opS (dFm (.int i))
def fmS (x : Str) : O Str := grd (x.length ≤ sizeLine) x
theorem os_fmS (x : Str) : Os (dFm (.str x)) D.str (fmS x) := os_grd fun h => by simp only [dFm, h, if_true]
def reprO (d : D) : O Str := opS (dRepr [d])
/-! ranges -/
def rng (lo hi : Int) : List Int := (List.range (hi - lo).toNat).map fun (k : Nat) => lo + k
theorem rngD_rng (lo hi : Int) : rngD lo hi = (rng lo hi).map D.int := by
  unfold rngD rng
  rw [List.map_map]
  rfl
def rg1 (n : Int) : O (List Int) := grd (-(2 ^ 62) ≤ n ∧ n < 2 ^ 62) (rng 0 n)
theorem os_rg1 (n : Int) : Os (dRng1 [.int n]) (List.map D.int) (rg1 n) := os_grd fun h => by simp only [dRng1, h, if_true, rngD_rng]; rfl
def rg2 (m n : Int) : O (List Int) := grd (-(2 ^ 62) ≤ m ∧ m < 2 ^ 62 ∧ -(2 ^ 62) ≤ n ∧ n < 2 ^ 62) (rng m n)
instance (m n : Int) : Decidable (RgOk m n) := by unfold RgOk; exact inferInstance
def lrI (n : Int) : O (List Int) := grd (RgOk 0 n) (rng 0 n)
/-! kinds -/
def isK (T : Tk) (d : D) : O Bool := ofO (isTk T d)
theorem os_isK (T : Tk) (d : D) : Os (dIs T d) D.bl (isK T d) := os_of rfl
def isC (c : Nat) (d : D) : O Bool := opB (dIo c d)
theorem isn_D (d : D) : dIsN false d .non = some (.bl (isN d)) := rfl
def atO (j c : Nat) (d : D) : O D := opD (dAt j c d)
/-! ### methods of lists -/
section
variable {R β α γ δ : Type} [Rz R] {E : Env → Prop} {P : β → R → Prop} {t : O β} {ρ : Env}
def mlK (i : Nat) (h : D → List D → Option (D × D)) (ds : List D) : M D := fun ρ => match ρ[i]? with
  | some (some d) => match h d ds with
    | some (z, d') => .ok z (ρ.set i (some d'))
    | none => .no
  | _ => .no
theorem Sm.mMl {i : Nat} {h : D → List D → Option (D × D)} {ms : M (List D)} {k : D → Env → R} {xs : List D} (h0 : ρ[i]? = some (some (.lst xs))) (q : Sm E P (sqR (ms ρ) fun ds ρ1 => sqR (mlK i h ds ρ1) k) t) : Sm E P (sqR (mMl i h ms ρ) k) t := by
  have : G.mMl i h ms ρ = (ms.bind (G.mlK i h)) ρ := by
    have hv : mV i ρ = .ok (.lst xs) ρ := by unfold mV; rw [h0]
    simp only [G.mMl, h0, isLst, if_true, mMt, M.bind, hv]
    rfl
  rw [this, sqR_bind]
  exact q
theorem Sm.mlK {i : Nat} {h : D → List D → Option (D × D)} {ds : List D} {d : D} {k : D → Env → R} {f : γ → D × D} {t1 : O γ} {t2 : γ → O β} (h0 : ρ[i]? = some (some d)) (ho : Os (h d ds) f t1) (q : ∀ b, Sm E P (k (f b).1 (ρ.set i (some (f b).2))) (t2 b)) : Sm E P (sqR (G.mlK i h ds ρ) k) (t1.bind t2) := by
  unfold G.mlK
  rw [h0]
  cases t1 with
  | ok b =>
    have e : h d ds = _ := ho
    simp only [e]
    exact q b
  | er x => exact ho.elim
  | no => exact Sm.nil
def appL (xs : List α) (y : α) : O (List α) := grd (xs.length < sizeLine) (xs ++ [y])
theorem os_app {e : α → D} (xs : List α) (y : α) : Os (hAppend (eL e xs) [e y]) (fun b => (D.non, eL e b)) (appL xs y) := os_grd fun h => by simp [eL, hAppend, h]
def extL (xs ys : List α) : O (List α) := grd (xs.length + ys.length ≤ sizeLine) (xs ++ ys)
def popL (xs : List α) : O (α × List α) := ofO ((xs[xs.length - 1]?).map fun y => (y, xs.dropLast))
def popAt (xs : List α) (i : Int) : O (α × List α) := ofO (if -(2 ^ 63) ≤ i ∧ i < 2 ^ 63 then (seqIndex? i xs.length).bind fun k => (xs[k]?).map fun y => (y, xs.eraseIdx k) else none)
/-! ### attributes stored -/
def flO (c j : Nat) (o d : D) : O D := match o with
  | .obj c' fs => if c' = c then (if j < fs.length then .ok (.obj c (fs.set j d)) else if j = fs.length then .ok (.obj c (fs ++ [d])) else .no) else .no
  | _ => .no
def flK (i c j : Nat) (d : D) : MS := fun ρ => match ρ[i]? with
  | some (some (.obj c' fs)) => if c' = c then (if j < fs.length then .nx (ρ.set i (some (.obj c (fs.set j d)))) else if j = fs.length then .nx (ρ.set i (some (.obj c (fs ++ [d])))) else .no) else .no
  | _ => .no
theorem Sm.fl {P : β → SR → Prop} {i c j : Nat} {m : M D} {k : Env → SR} (q : Sm E P (sqR (m ρ) fun d ρ1 => sqS (flK i c j d ρ1) k) t) : Sm E P (sqS (mFl i c j m ρ) k) t := by unfold mFl; rw [sqS_of]; exact q
theorem Sm.flK {P : β → SR → Prop} {i c j : Nat} {o d : D} {k : Env → SR} {t2 : D → O β} (h0 : ρ[i]? = some (some o)) (q : ∀ o', Sm E P (k (ρ.set i (some o'))) (t2 o')) : Sm E P (sqS (G.flK i c j d ρ) k) ((flO c j o d).bind t2) := by
  unfold G.flK flO
  rw [h0]
  cases o with
  | obj c' fs =>
    simp only
    split
    · split
      · exact q _
      · split
        · exact q _
        · exact Sm.nil
    · exact Sm.nil
  | _ => exact Sm.nil
/-! ### comprehensions -/
theorem Sm.mLc {vs : List Nat} {it : M (List D)} {g : MG} {tt : M Bool} {e : M D} {k : D → Env → R} (q : Sm E P (sqR (it ρ) fun ds ρ1 => sqR (lcA vs g tt e ds ρ1) k) t) : Sm E P (sqR (mLc vs it g tt e ρ) k) t := by unfold G.mLc; rw [sqR_bind]; exact q
def lcS {σ : Type} (f : α → σ → O (Option γ × σ)) : List α → σ → O (List γ × σ)
  | [], s => .ok ([], s)
  | x :: xs, s => (noX (f x s)).bind fun p => (lcS f xs p.2).bind fun q => .ok (match p.1 with
    | some y => (y :: q.1, q.2)
    | none => q)
/-- a comprehension that changes something, or that may fail -/
def lcW {σ : Type} (f : α → σ → O (Option γ × σ)) (xs : List α) (s : σ) : O (List γ × σ) := if xs.length ≤ sizeLine then lcS f xs s else .no
/-- .. that changes nothing -/
def lcE (f : α → O (Option γ)) (xs : List α) : O (List γ) := (lcW (fun x (_ : Unit) => (f x).bind fun o => .ok (o, ())) xs ()).bind fun p => .ok p.1
def lcO (f : α → O γ) (xs : List α) : O (List γ) := (lcW (fun x (_ : Unit) => (f x).bind fun o => .ok (some o, ())) xs ()).bind fun p => .ok p.1
def lcM (f : α → γ) (xs : List α) : O (List γ) := grd (xs.length ≤ sizeLine) (xs.map f)
def lcF (b : α → Bool) (f : α → γ) (xs : List α) : O (List γ) := grd (xs.length ≤ sizeLine) ((xs.filter b).map f)
def lcU (tt : M Bool) (e : M D) (ρ1 : Env) : Rs (Option D) := sqR (tt ρ1) fun b ρ2 => if b = true then sqR (e ρ2) fun y ρ3 => .ok (some y) ρ3 else .ok none ρ2
theorem lcT_U {vs : List Nat} {g : MG} {tt : M Bool} {e : M D} {d : D} {ρ ρ1 ρ2 : Env} {o : Option D} (hg : g d (wpE ρ vs) = some ρ1) (h : lcU tt e ρ1 = .ok o ρ2) : lcT vs g tt e d ρ = .ok o ρ2 := by
  unfold lcT
  rw [hg]
  unfold lcU sqR at h
  simp only
  cases ht : tt ρ1 with
  | ok b ρ3 =>
    rw [ht] at h
    simp only at h ⊢
    cases b with
    | true =>
      simp only [if_true] at h ⊢
      cases he : e ρ3 with
      | ok y ρ4 => rw [he] at h; cases h; rfl
      | er x ρ4 => rw [he] at h; cases h
      | no => rw [he] at h; cases h
    | false =>
      simp only [Bool.false_eq_true, if_false] at h ⊢
      exact h
  | er x ρ3 => rw [ht] at h; cases h
  | no => rw [ht] at h; cases h
theorem lcS_run {σ : Type} {vs : List Nat} {g : MG} {tt : M Bool} {e : M D} {ex : α → D} {ey : γ → D} {en : σ → Env} {ρ1 : α → σ → Env} {f : α → σ → O (Option γ × σ)}
    (hg : ∀ x s, g (ex x) (wpE (en s) vs) = some (ρ1 x s))
    (step : ∀ x s, Sm (fun _ => True) (fun (p : Option γ × σ) r => ∃ ρ', r = .ok (p.1.map ey) ρ' ∧ wpE ρ' vs = wpE (en p.2) vs) (lcU tt e (ρ1 x s)) (f x s)) :
    ∀ (xs : List α) (s : σ) (ρ : Env) (acc : List D) (q : List γ × σ), wpE ρ vs = wpE (en s) vs → acc.length + xs.length ≤ sizeLine → lcS f xs s = .ok q → ∃ ρ', lcG vs g tt e acc (xs.map ex) ρ = .ok (acc ++ q.1.map ey) ρ' ∧ wpE ρ' vs = wpE (en q.2) vs
  | [], s, ρ, acc, q, hw, hl, h => by
    cases h
    exact ⟨ρ, by simp [lcG, M.ret], hw⟩
  | x :: xs, s, ρ, acc, q, hw, hl, h => by
    unfold lcS at h
    have hs := step x s
    cases hf : f x s with
    | ok p =>
      rw [hf] at hs h
      unfold Sm SmB at hs
      obtain ⟨ρ2, e1, h1⟩ := hs
      simp only [noX, O.ok_bind] at h
      obtain ⟨q2, e2, h⟩ := bind_ok h
      have e3 : lcT vs g tt e (ex x) ρ = .ok (p.1.map ey) ρ2 := by
        rw [lcT_cong hw]
        exact lcT_U (hg x s) e1
      rw [List.map_cons, lcG]
      simp only [e3]
      cases hp : p.1 with
      | none =>
        rw [hp] at h
        cases h
        obtain ⟨ρ', e4, h4⟩ := lcS_run hg step xs p.2 ρ2 acc q2 h1 (by simp at hl; omega) e2
        exact ⟨ρ', e4, h4⟩
      | some y =>
        rw [hp] at h
        cases h
        obtain ⟨ρ', e4, h4⟩ := lcS_run hg step xs p.2 ρ2 (acc ++ [ey y]) q2 h1 (by simp at hl ⊢; omega) e2
        refine ⟨ρ', ?_, h4⟩
        simp only [Option.map]
        rw [if_pos (by simp at hl; omega), e4]
        simp
    | er z => rw [hf] at h; cases h
    | no => rw [hf] at h; cases h
theorem lcW_ok {σ : Type} {f : α → σ → O (Option γ × σ)} {xs : List α} {s : σ} {q : List γ × σ} (h : lcW f xs s = .ok q) : xs.length ≤ sizeLine ∧ lcS f xs s = .ok q := by
  unfold lcW at h
  split at h
  · exact ⟨‹_›, h⟩
  · cases h
theorem noX_er {α : Type} {m : O α} {x : Ex} : noX m ≠ .er x := by cases m <;> simp [noX]
theorem lcS_er {σ : Type} {f : α → σ → O (Option γ × σ)} {z : Ex} : ∀ {xs : List α} {s : σ}, lcS f xs s ≠ .er z
  | [], s, h => by cases h
  | x :: xs, s, h => by
    unfold lcS at h
    rcases bind_er h with h | ⟨p, _, h⟩
    · exact noX_er h
    · rcases bind_er h with h | ⟨q, _, h⟩
      · exact lcS_er h
      · cases h
theorem lcW_er {σ : Type} {f : α → σ → O (Option γ × σ)} {xs : List α} {s : σ} {z : Ex} : lcW f xs s ≠ .er z := by
  unfold lcW
  split
  · exact lcS_er
  · simp
theorem Sm.lcW {σ : Type} {vs : List Nat} {g : MG} {tt : M Bool} {e : M D} {ex : α → D} {ey : γ → D} {en : σ → Env} {ρ1 : α → σ → Env} {f : α → σ → O (Option γ × σ)} {k : D → Env → R} {t2 : List γ × σ → O β}
    (hg : ∀ x s, g (ex x) (wpE (en s) vs) = some (ρ1 x s))
    (step : ∀ x s, Sm (fun _ => True) (fun (p : Option γ × σ) r => ∃ ρ', r = .ok (p.1.map ey) ρ' ∧ wpE ρ' vs = wpE (en p.2) vs) (lcU tt e (ρ1 x s)) (f x s))
    (xs : List α) (s : σ) (hr : ∀ ρ' s', wpE ρ' vs = wpE (en s') vs → rsE ρ' (en s) vs = en s') (q : ∀ p, Sm E P (k (eL ey p.1) (en p.2)) (t2 p)) : Sm E P (sqR (lcA vs g tt e (xs.map ex) (en s)) k) ((G.lcW f xs s).bind t2) := by
  cases hw : G.lcW f xs s with
  | ok p =>
    obtain ⟨hl, hs⟩ := lcW_ok hw
    obtain ⟨ρ', e1, h1⟩ := lcS_run hg step xs s (en s) [] p rfl (by simpa using hl) hs
    have e2 : lcA vs g tt e (xs.map ex) (en s) = .ok (eL ey p.1) (en p.2) := by
      unfold lcA
      rw [e1]
      simp only [List.nil_append, hr ρ' p.2 h1]
      rfl
    rw [e2]
    exact q p
  | er z => exact absurd hw lcW_er
  | no => exact Sm.nil
theorem lcE_b {f : α → O (Option γ)} {xs : List α} {t2 : List γ → O β} : (lcE f xs).bind t2 = (G.lcW (fun x (_ : Unit) => (f x).bind fun o => .ok (o, ())) xs ()).bind fun p => t2 p.1 := by
  unfold lcE
  rw [O.bind_assoc]
  rfl
theorem lcO_b {f : α → O γ} {xs : List α} {t2 : List γ → O β} : (lcO f xs).bind t2 = (G.lcW (fun x (_ : Unit) => (f x).bind fun o => .ok (some o, ())) xs ()).bind fun p => t2 p.1 := by
  unfold lcO
  rw [O.bind_assoc]
  rfl
/-- .. without changes -/
theorem Sm.lcE {vs : List Nat} {g : MG} {tt : M Bool} {e : M D} {ex : α → D} {ey : γ → D} {ρ1 : α → Env} {f : α → O (Option γ)} {k : D → Env → R} {t2 : List γ → O β}
    (hg : ∀ x, g (ex x) (wpE ρ vs) = some (ρ1 x)) (hw : ∀ x, wpE (ρ1 x) vs = wpE ρ vs)
    (step : ∀ x, Sm (fun _ => True) (fun (p : Option γ) r => r = .ok (p.map ey) (ρ1 x)) (lcU tt e (ρ1 x)) (f x))
    (xs : List α) (q : ∀ p, Sm E P (k (eL ey p) ρ) (t2 p)) : Sm E P (sqR (lcA vs g tt e (xs.map ex) ρ) k) ((G.lcE f xs).bind t2) := by
  rw [lcE_b]
  refine Sm.lcW (en := fun _ => ρ) (ρ1 := fun x _ => ρ1 x) (ey := ey) (fun x _ => hg x) (fun x _ => ?_) xs () (fun ρ' _ h => rsE_back h) (fun p => q p.1)
  have := step x
  unfold Sm SmB at this ⊢
  cases hf : f x with
  | ok o => rw [hf] at this; exact ⟨_, this, hw x⟩
  | er z => rw [hf] at this; exact this
  | no => trivial
theorem Sm.lcO {vs : List Nat} {g : MG} {e : M D} {ex : α → D} {ey : γ → D} {ρ1 : α → Env} {f : α → O γ} {k : D → Env → R} {t2 : List γ → O β}
    (hg : ∀ x, g (ex x) (wpE ρ vs) = some (ρ1 x)) (hw : ∀ x, wpE (ρ1 x) vs = wpE ρ vs)
    (step : ∀ x, Sm (fun _ => True) (fun (p : γ) r => r = .ok (ey p) (ρ1 x)) (e (ρ1 x)) (f x))
    (xs : List α) (q : ∀ p, Sm E P (k (eL ey p) ρ) (t2 p)) : Sm E P (sqR (lcA vs g mYes e (xs.map ex) ρ) k) ((G.lcO f xs).bind t2) := by
  rw [lcO_b]
  refine Sm.lcW (en := fun _ => ρ) (ρ1 := fun x _ => ρ1 x) (ey := ey) (fun x _ => hg x) (fun x _ => ?_) xs () (fun ρ' _ h => rsE_back h) (fun p => q p.1)
  have := step x
  show Sm _ _ (sqR (e (ρ1 x)) fun y ρ3 => Rs.ok (some y) ρ3) _
  unfold Sm SmB at this ⊢
  cases hf : f x with
  | ok o =>
    rw [hf] at this
    have this : e (ρ1 x) = _ := this
    exact ⟨_, by rw [this]; rfl, hw x⟩
  | er z =>
    rw [hf] at this
    obtain ⟨ρ', h1, h2⟩ := this
    exact ⟨ρ', by rw [h1]; rfl, h2⟩
  | no => trivial
theorem lcS_pure {f : α → Option γ} : ∀ (xs : List α), lcS (fun x (_ : Unit) => .ok (f x, ())) xs () = .ok (xs.filterMap f, ())
  | [] => rfl
  | x :: xs => by
    simp only [lcS, noX, O.ok_bind, lcS_pure xs]
    cases h : f x <;> simp [List.filterMap_cons, h]
theorem Sm.lcM {vs : List Nat} {g : MG} {e : M D} {ex : α → D} {ey : γ → D} {ρ1 : α → Env} {f : α → γ} {k : D → Env → R} {t2 : List γ → O β}
    (hg : ∀ x, g (ex x) (wpE ρ vs) = some (ρ1 x)) (hw : ∀ x, wpE (ρ1 x) vs = wpE ρ vs)
    (step : ∀ x, e (ρ1 x) = .ok (ey (f x)) (ρ1 x))
    (xs : List α) (q : ∀ p, Sm E P (k (eL ey p) ρ) (t2 p)) : Sm E P (sqR (lcA vs g mYes e (xs.map ex) ρ) k) ((G.lcM f xs).bind t2) := by
  have : (G.lcM f xs).bind t2 = (G.lcO (fun x => .ok (f x)) xs).bind t2 := by
    congr 1
    unfold G.lcM G.lcO G.lcW grd
    simp only [O.ok_bind]
    split
    · rw [lcS_pure (f := fun x => some (f x))]
      simp [List.filterMap_eq_map']
    · rfl
  rw [this]
  exact Sm.lcO (ey := ey) hg hw (fun x => Sm.done (b := f x) (step x)) xs q
theorem Sm.lcF {vs : List Nat} {g : MG} {tt : M Bool} {e : M D} {ex : α → D} {ey : γ → D} {ρ1 : α → Env} {b : α → Bool} {f : α → γ} {k : D → Env → R} {t2 : List γ → O β}
    (hg : ∀ x, g (ex x) (wpE ρ vs) = some (ρ1 x)) (hw : ∀ x, wpE (ρ1 x) vs = wpE ρ vs)
    (test : ∀ x, tt (ρ1 x) = .ok (b x) (ρ1 x)) (step : ∀ x, e (ρ1 x) = .ok (ey (f x)) (ρ1 x))
    (xs : List α) (q : ∀ p, Sm E P (k (eL ey p) ρ) (t2 p)) : Sm E P (sqR (lcA vs g tt e (xs.map ex) ρ) k) ((G.lcF b f xs).bind t2) := by
  have : (G.lcF b f xs).bind t2 = (G.lcE (fun x => .ok (if b x = true then some (f x) else none)) xs).bind t2 := by
    congr 1
    unfold G.lcF G.lcE G.lcW grd
    simp only [O.ok_bind]
    split
    · rw [lcS_pure]
      simp only [O.ok_bind]
      congr 1
      induction xs with
      | nil => rfl
      | cons x xs ih =>
        have ih := ih (by rename_i h; simp at h; omega)
        cases hb : b x <;> simp [List.filterMap_cons, List.filter_cons, hb, ih]
    · rfl
  rw [this]
  refine Sm.lcE (ey := ey) hg hw (fun x => ?_) xs q
  refine Sm.done ?_
  show lcU tt e (ρ1 x) = _
  unfold lcU
  rw [test x]
  cases hb : b x with
  | true => show sqR (e (ρ1 x)) _ = _; rw [step x]; rfl
  | false => rfl
end
end G
namespace G
open PySem PySem.Spec PyProof.Rows L2
theorem cst_d : Cst eD cD := ⟨fun d x h => by cases h; rfl, fun d x h => (by cases h), fun _ => rfl⟩
theorem os_en {α : Type} {e : α → D} {x : D} {oa : Option (List α)} (ha : dSq x = oa.map (List.map e)) : Os ((d1Sq [x]).map enD) (List.map (eP D.int e)) (ofO (oa.map enL)) := by
  show Os ((dSq x).map enD) _ _
  rw [ha]
  cases oa with
  | none => trivial
  | some xs => exact congrArg some (enD_map xs)
theorem sqD_D (d : D) : dSq d = (dSq d).map (List.map eD) := by
  cases dSq d with
  | none => rfl
  | some xs => exact congrArg some (List.map_id xs).symm
/-- an option taken as there -/
def getO {α : Type} (o : Option α) : O α := ofO o
theorem Sm.getO {R β γ : Type} [Rz R] {E : Env → Prop} {P : β → R → Prop} {r : Rs D} {k : D → Env → R} {ρ' : Env} {e : γ → D} {o : Option γ} {t2 : γ → O β} (h : r = .ok (eO e o) ρ') (q : ∀ x, Sm E P (k (e x) ρ') (t2 x)) : Sm E P (sqR r k) ((getO o).bind t2) := by
  subst h
  cases o with
  | none => exact Sm.nil
  | some x => exact q x
end G
namespace G
open PySem PySem.Spec PyProof.Rows L2
theorem Sm.ch {R β γ : Type} [Rz R] {E : Env → Prop} {P : β → R → Prop} {r : R} {e : γ → D} {c : D → O γ} {d : D} {t2 : γ → O β} (h : Cst e c) (q : ∀ x, d = e x → Sm E P r (t2 x)) : Sm E P r ((c d).bind t2) := by
  cases hc : c d with
  | ok x => exact q x (h.sd d x hc)
  | er x => exact (h.ne d x hc).elim
  | no => exact Sm.nil
/-- an attribute, taken as of a kind -/
def atC {γ : Type} (j k : Nat) (c : D → O γ) (d : D) : O γ := (ofO (dAt j k d)).bind c
theorem os_atC {γ : Type} {e : γ → D} {c : D → O γ} {j k : Nat} {d : D} (h : Cst e c) : Os (dAt j k d) e (atC j k c d) := by
  unfold atC
  cases dAt j k d with
  | none => trivial
  | some v =>
    show Os (some v) e (c v)
    cases hc : c v with
    | ok x => exact congrArg some (h.sd v x hc)
    | er x => exact (h.ne v x hc).elim
    | no => trivial
theorem Sm.opE {E : Env → Prop} {γ δ : Type} {o : Option δ} {ρ : Env} {f : γ → δ} {t : O γ} (h : Os o f t) : Sm E (fun b (r : Rs δ) => r = Rs.ok (f b) ρ) (sqR (M.opt o ρ) fun a ρ => Rs.ok a ρ) t := by
  cases t with
  | ok b =>
    have e : o = some (f b) := h
    subst e
    exact Sm.done rfl
  | er x => exact h.elim
  | no => exact Sm.nil
def opT (o : Option Bool) : O Bool := ofO o
theorem os_T {o : Option Bool} : Os o (fun b => b) (opT o) := os_of (by cases o <;> rfl)
def zpO {α β : Type} (oa : Option (List α)) (ob : Option (List β)) : O (List (α × β)) := ofO (oa.bind fun xs => ob.map fun ys => xs.zip ys)
theorem en_fin {α : Type} {e : α → D} {d : D} {xs : List α} (h : dSq d = some (xs.map e)) : (d1Sq [d]).map enD = some ((enL xs).map (eP D.int e)) := by
  show (dSq d).map enD = _
  rw [h]
  exact congrArg some (enD_map xs)
end G
namespace G
open PySem PySem.Spec PyProof.Rows L2
theorem tupIf {n : Nat} {ds : List D} (hl : ds.length = n) (h : n ≤ sizeLine) : (if ds.length ≤ sizeLine then some (D.tup ds) else none) = some (.tup ds) := if_pos (by omega)
end G
namespace G
end G
/-! T5: more typed operations. -/
namespace G
open PySem PySem.Spec PyProof.Rows L2
section
variable {β : Type} {E : Env → Prop} {P : β → SR → Prop} {ρ : Env} {t : O β}
theorem Sm.ifpT {c : M Bool} {a b : MS} {ρ1 : Env} {k : Env → SR} (hc : c ρ = .ok true ρ1) (ha : Sm E P (sqS (a ρ1) k) t) : Sm E P (sqS (mIfS c a b ρ) k) t := by
  unfold mIfS
  rw [sqS_of, hc]
  exact ha
theorem Sm.ifpF {c : M Bool} {a b : MS} {ρ1 : Env} {k : Env → SR} (hc : c ρ = .ok false ρ1) (hb : Sm E P (sqS (b ρ1) k) t) : Sm E P (sqS (mIfS c a b ρ) k) t := by
  unfold mIfS
  rw [sqS_of, hc]
  exact hb
end
theorem Sm.noE {γ J : Type} {E E' : Env → Prop} {I : γ → J → Env} {ρ : Env} {b : MS} {t1 : O γ} (h : Sm E' (NX I) (b ρ) t1) : Sm E (NX I) (noE b ρ) (noX t1) := by
  unfold Sm SmB at *
  unfold G.noE noX
  cases t1 with
  | ok z =>
    obtain ⟨j, e⟩ := (show NX I z (b ρ) from h)
    simp only [e]
    exact ⟨j, rfl⟩
  | er x => trivial
  | no => trivial
/-- t.index -/
def tixK (a : M (List D)) (x : D) : M D := if isTs x = true then a.bind fun ds => M.opt (dTix x ds) else M.opt none
def neT (xs : List Str) : O Unit := if xs = [] then .no else .ok ()
def tixO (xs : List Str) (y : Str) : O Int := if y ∈ xs then .ok (xs.idxOf y : Nat) else .no
theorem isTs_map (xs : List Str) (h : xs ≠ []) : isTs (eT D.str xs) = true := by
  cases xs with
  | nil => exact absurd rfl h
  | cons x xs =>
    simp only [eT, isTs, List.map_cons, List.isEmpty_cons, Bool.not_false, Bool.true_and, List.all_cons, List.all_map]
    exact List.all_eq_true.mpr fun _ _ => rfl
section
variable {R β γ : Type} [Rz R] {E : Env → Prop} {P : β → R → Prop} {t : O β} {ρ : Env}
theorem Sm.mTix {o : M D} {a : M (List D)} {k : D → Env → R} (q : Sm E P (sqR (o ρ) fun x ρ1 => sqR (tixK a x ρ1) k) t) : Sm E P (sqR (mTix o a ρ) k) t := by unfold G.mTix; rw [sqR_bind]; exact q
theorem Sm.tixK {xs : List Str} {a : M (List D)} {k : D → Env → R} {t2 : Unit → O β} (q : Sm E P (sqR (a ρ) fun ds ρ1 => sqR (M.opt (dTix (eT D.str xs) ds) ρ1) k) (t2 ())) : Sm E P (sqR (G.tixK a (eT D.str xs) ρ) k) ((neT xs).bind t2) := by
  unfold G.tixK neT
  by_cases h : xs = []
  · rw [if_pos h]; exact Sm.nil
  · rw [if_neg h, if_pos (isTs_map xs h), sqR_bind]; exact q
end
/-- min, max of two texts -/
def minS (x y : Str) : Str := if decide (y.cps.toList < x.cps.toList) then y else x
def maxS (x y : Str) : Str := if decide (x.cps.toList < y.cps.toList) then y else x
/-- t * k -/
def mulT {α : Type} (xs : List α) (k : Int) : O (List α) := grd (2 ≤ k ∧ k ≤ 16000 ∧ 0 < xs.length ∧ xs.length ≤ 1000) (List.replicate k.toNat xs).flatten
/-- one of these, things of a made-up kind -/
def memB {α : Type} [DecidableEq α] (x : α) (xs : List α) : Bool := decide (x ∈ xs)
section
variable {α : Type} {e : α → D} {p : α → PyData} {n : Nat} [DecidableEq α]
end
/-- xs.remove(k), texts -/
def remS (xs : List Str) (k : Str) : O (List Str) := if k ∈ xs then .ok (xs.erase k) else .no
/-- xs.index, texts -/
def lixK (a : M (List D)) (x : D) : M D := if isLs x = true then a.bind fun ds => M.opt (dLix x ds) else M.opt none
section
variable {R β γ : Type} [Rz R] {E : Env → Prop} {P : β → R → Prop} {t : O β} {ρ : Env}
theorem Sm.mLix {o : M D} {a : M (List D)} {k : D → Env → R} (q : Sm E P (sqR (o ρ) fun x ρ1 => sqR (lixK a x ρ1) k) t) : Sm E P (sqR (mLix o a ρ) k) t := by unfold G.mLix; rw [sqR_bind]; exact q
theorem Sm.lixK {xs : List Str} {a : M (List D)} {k : D → Env → R} (q : Sm E P (sqR (a ρ) fun ds ρ1 => sqR (M.opt (dLix (eL D.str xs) ds) ρ1) k) t) : Sm E P (sqR (G.lixK a (eL D.str xs) ρ) k) t := by
  unfold G.lixK
  rw [if_pos (show isLs (eL D.str xs) = true from rfl), sqR_bind]
  exact q
end
/-- int(truth) -/
def intB (b : Bool) : Int := if b then 1 else 0
theorem int_b (b : Bool) : dIntOf [.bl b] = some (.int (intB b)) := rfl
end G
/-! T3: reckoning with typed programs. -/
namespace G
open PySem PySem.Spec PyProof.Rows L2
/-- it ends well, with what is asked -/
def Ok {α : Type} (m : O α) (Q : α → Prop) : Prop := ∃ a, m = .ok a ∧ Q a
section
variable {α β γ σ : Type} {m : O α} {f : α → O β} {P P' : α → Prop} {Q : β → Prop}
theorem Ok.bd (h : Ok m P) (k : ∀ a, P a → Ok (f a) Q) : Ok (m.bind f) Q := by
  obtain ⟨a, e, h⟩ := h
  subst e
  exact k a h
theorem Ok.ret {a : α} (h : P a) : Ok (.ok a) P := ⟨a, rfl, h⟩
theorem Ok.nx {a : α} (h : Ok (f a) Q) : Ok ((O.ok a).bind f) Q := h
theorem Ok.imp (h : Ok m P) (k : ∀ a, P a → P' a) : Ok m P' := by
  obtain ⟨a, e, h⟩ := h
  exact ⟨a, e, k a h⟩
theorem Ok.eq {a : α} (h : Ok m (· = a)) : m = .ok a := by
  obtain ⟨b, e, h⟩ := h
  rw [e, h]
theorem Ok.of {a : α} (h : m = .ok a) (k : P a) : Ok m P := ⟨a, h, k⟩
theorem Ok.grd {p : Prop} [Decidable p] {a : α} (h : p) (k : P a) : Ok (grd p a) P := ⟨a, by unfold G.grd; exact if_pos h, k⟩
theorem Ok.ite {c : Bool} {a b : O α} (ha : c = true → Ok a P) (hb : c = false → Ok b P) : Ok (if c = true then a else b) P := by
  cases c with
  | true => exact ha rfl
  | false => exact hb rfl
@[simp] theorem O.bind_ok (m : O α) : (m.bind fun a => O.ok a) = m := by cases m <;> rfl
/-! numbers -/
theorem Ok.mul {i j : Int} {Q : Int → Prop} (h : CMul i j) (k : Q (i * j)) : Ok (mulI i j) Q := Ok.grd h k
theorem Ok.mulL {i j : Int} {Q : Int → Prop} (h : -1000000000000000000 ≤ i ∧ i ≤ 1000000000000000000) (k : Q (i * j)) : Ok (mulI i j) Q := Ok.grd (cmul_l h.1 h.2) k
theorem Ok.fd {i j : Int} {Q : Int → Prop} (h : 0 < j ∧ j < 1073741824) (k : Q (i / j)) : Ok (fdI i j) Q := Ok.grd ⟨by omega, by omega⟩ (by rw [Int.fdiv_eq_ediv_of_nonneg _ (by omega)]; exact k)
theorem Ok.md {i j : Int} {Q : Int → Prop} (h : 0 < j) (k : Q (i % j)) : Ok (mdI i j) Q := Ok.grd (by omega) (by rw [Int.fmod_eq_emod_of_nonneg _ (by omega)]; exact k)
theorem Ok.dm {i j : Int} {Q : Int × Int → Prop} (h : 0 < j ∧ j < 1073741824) (k : Q (i / j, i % j)) : Ok (dmI i j) Q := Ok.grd h k
/-! lists -/
theorem atI_nat {xs : List α} {i : Int} (h0 : 0 ≤ i) (h1 : i < xs.length) : ∃ v, atI xs i = some v ∧ xs[i.toNat]? = some v ∧ v ∈ xs := by
  have h2 : i.toNat < xs.length := by omega
  refine ⟨xs[i.toNat], ?_, by simp [h2], List.getElem_mem _⟩
  simp [atI, ixN, h0, h1, h2]
theorem Ok.ix {xs : List α} {i : Int} (h0 : 0 ≤ i) (h1 : i < xs.length) : Ok (ixL xs i) fun v => xs[i.toNat]? = some v ∧ v ∈ xs := by
  obtain ⟨v, e, h2, h3⟩ := atI_nat h0 h1
  exact ⟨v, by simp only [ixL, e, ofO_some], h2, h3⟩
theorem Ok.app {xs : List α} {y : α} {Q : List α → Prop} (h : xs.length < sizeLine) (k : Q (xs ++ [y])) : Ok (appL xs y) Q := Ok.grd h k
theorem Ok.ext {xs ys : List α} {Q : List α → Prop} (h : xs.length + ys.length ≤ sizeLine) (k : Q (xs ++ ys)) : Ok (extL xs ys) Q := Ok.grd h k
theorem Ok.cat {xs ys : List α} {Q : List α → Prop} (h : xs.length + ys.length ≤ sizeLine) (k : Q (xs ++ ys)) : Ok (catL xs ys) Q := Ok.grd h k
theorem Ok.popAt {xs : List α} {i : Int} (h0 : 0 ≤ i) (h1 : i < xs.length) (h2 : xs.length ≤ sizeLine) : Ok (G.popAt xs i) fun p => xs[i.toNat]? = some p.1 ∧ p.2 = xs.eraseIdx i.toNat := by
  have h3 : i.toNat < xs.length := by omega
  have hs : sizeLine = 16777216 := rfl
  have e : seqIndex? i xs.length = some i.toNat := (ixN_seq (by simp [ixN, h0, h1])).1
  refine ⟨(xs[i.toNat], xs.eraseIdx i.toNat), ?_, by simp [h3], rfl⟩
  unfold G.popAt
  rw [if_pos (by omega), e]
  simp [h3]
theorem Ok.st {xs : List α} {i : Int} {v : α} {Q : List α → Prop} (h0 : 0 ≤ i) (h1 : i < xs.length) (k : Q (xs.set i.toNat v)) : Ok (stL xs i v) Q := by
  refine ⟨_, ?_, k⟩
  unfold stL
  simp [ixN, h0, h1]
theorem Ok.rg1 {n : Int} {Q : List Int → Prop} (h0 : -1000000000 ≤ n) (h : n ≤ 1000000000) (k : Q (rng 0 n)) : Ok (G.rg1 n) Q := Ok.grd (by omega) k
theorem Ok.rg2 {m n : Int} {Q : List Int → Prop} (h : -1000000000 ≤ m ∧ m ≤ 1000000000 ∧ -1000000000 ≤ n ∧ n ≤ 1000000000) (k : Q (rng m n)) : Ok (G.rg2 m n) Q := Ok.grd (by omega) k
theorem mem_rng {lo hi x : Int} : x ∈ rng lo hi ↔ lo ≤ x ∧ x < hi := by
  unfold rng
  rw [List.mem_map]
  constructor
  · rintro ⟨k, hk, rfl⟩
    have := List.mem_range.mp hk
    omega
  · intro ⟨h1, h2⟩
    exact ⟨(x - lo).toNat, List.mem_range.mpr (by omega), by omega⟩
theorem rng_len (lo hi : Int) : (rng lo hi).length = (hi - lo).toNat := by simp [rng]
/-- thing by thing -/
inductive F2 {α β : Type} (R : α → β → Prop) : List α → List β → Prop
  | nil : F2 R [] []
  | cons {x y xs ys} : R x y → F2 R xs ys → F2 R (x :: xs) (y :: ys)
theorem F2.len {R : α → β → Prop} {xs ys} (h : F2 R xs ys) : xs.length = ys.length := by
  induction h with
  | nil => rfl
  | cons _ _ ih => simp [ih]
theorem F2.imp {R S : α → β → Prop} {xs ys} (h : F2 R xs ys) (k : ∀ x y, x ∈ xs → y ∈ ys → R x y → S x y) : F2 S xs ys := by
  induction h with
  | nil => exact .nil
  | cons r _ ih => exact .cons (k _ _ (List.mem_cons_self ..) (List.mem_cons_self ..) r) (ih fun x y hx hy => k x y (List.mem_cons_of_mem _ hx) (List.mem_cons_of_mem _ hy))
theorem F2.mem {R : α → β → Prop} {xs ys} (h : F2 R xs ys) {y : β} (hy : y ∈ ys) : ∃ x ∈ xs, R x y := by
  induction h with
  | nil => cases hy
  | cons r _ ih =>
    rcases List.mem_cons.mp hy with rfl | hy
    · exact ⟨_, List.mem_cons_self .., r⟩
    · obtain ⟨x, hx, r⟩ := ih hy
      exact ⟨x, List.mem_cons_of_mem _ hx, r⟩
theorem F2.get {R : α → β → Prop} {xs ys} (h : F2 R xs ys) {i : Nat} {x : α} (hx : xs[i]? = some x) : ∃ y, ys[i]? = some y ∧ R x y := by
  induction h generalizing i with
  | nil => simp at hx
  | cons r _ ih =>
    cases i with
    | zero => simp at hx; subst hx; exact ⟨_, rfl, r⟩
    | succ i => exact ih (by simpa using hx)
theorem F2.map {g : α → β} {xs ys} (h : F2 (fun x y => y = g x) xs ys) : ys = xs.map g := by
  induction h with
  | nil => rfl
  | cons r _ ih => rw [r, ih]; rfl
theorem F2.all {R : α → Bool → Prop} {xs : List α} {bs : List Bool} (h : F2 R xs bs) (k : ∀ x ∈ xs, ∀ b, R x b → b = true) : bs.all id = true := by
  induction h with
  | nil => rfl
  | cons r _ ih =>
    rw [List.all_cons, k _ (List.mem_cons_self ..) _ r, ih fun x hx => k x (List.mem_cons_of_mem _ hx)]
    rfl
/-! comprehensions -/
theorem lcS_ok {σ : Type} {f : α → σ → O (Option γ × σ)} (I : σ → Prop) (R : α → Option γ → Prop) : ∀ {xs : List α} {s : σ}, (∀ x ∈ xs, ∀ s, I s → Ok (f x s) fun p => R x p.1 ∧ I p.2) → I s → Ok (lcS f xs s) fun p => I p.2 ∧ ∃ os, F2 R xs os ∧ p.1 = os.filterMap id
  | [], s, h, hs => ⟨_, rfl, hs, [], .nil, rfl⟩
  | x :: xs, s, h, hs => by
    obtain ⟨p, e, r, i⟩ := h x (List.mem_cons_self ..) s hs
    obtain ⟨q, e2, i2, os, r2, h2⟩ := lcS_ok (xs := xs) I R (fun y hy => h y (List.mem_cons_of_mem _ hy)) i
    unfold lcS
    rw [e]
    simp only [noX, O.ok_bind, e2]
    refine ⟨_, rfl, ?_, p.1 :: os, .cons r r2, ?_⟩
    · cases p.1 <;> exact i2
    · cases hp : p.1 <;> simp [h2]
theorem Ok.lcW {σ : Type} {f : α → σ → O (Option γ × σ)} (I : σ → Prop) (R : α → Option γ → Prop) {xs : List α} {s : σ} (hl : xs.length ≤ sizeLine) (h : ∀ x ∈ xs, ∀ s, I s → Ok (f x s) fun p => R x p.1 ∧ I p.2) (hs : I s) : Ok (G.lcW f xs s) fun p => I p.2 ∧ ∃ os, F2 R xs os ∧ p.1 = os.filterMap id := by
  unfold G.lcW
  rw [if_pos hl]
  exact lcS_ok I R h hs
theorem filterMap_some (ys : List β) : (ys.map some).filterMap id = ys := by
  induction ys with
  | nil => rfl
  | cons y ys ih => simp [ih]
theorem F2.some {R : α → β → Prop} {xs : List α} {os : List (Option β)} (h : F2 (fun x o => ∃ y, o = some y ∧ R x y) xs os) : ∃ ys, os = ys.map some ∧ F2 R xs ys := by
  induction h with
  | nil => exact ⟨[], rfl, .nil⟩
  | cons r _ ih =>
    obtain ⟨y, rfl, r⟩ := r
    obtain ⟨ys, rfl, h⟩ := ih
    exact ⟨y :: ys, rfl, .cons r h⟩
theorem Ok.lcO {f : α → O γ} (R : α → γ → Prop) {xs : List α} (hl : xs.length ≤ sizeLine) (h : ∀ x ∈ xs, Ok (f x) (R x)) : Ok (G.lcO f xs) (F2 R xs) := by
  unfold G.lcO
  refine (Ok.lcW (fun _ => True) (fun x o => ∃ y, o = some y ∧ R x y) hl (fun x hx s _ => ?_) trivial).bd ?_
  · obtain ⟨y, e, r⟩ := h x hx
    rw [e]
    exact ⟨_, rfl, ⟨y, rfl, r⟩, trivial⟩
  · rintro ⟨ys, _⟩ ⟨_, os, r, e⟩
    obtain ⟨zs, e2, r2⟩ := F2.some r
    rw [e2, filterMap_some] at e
    refine Ok.ret ?_
    show F2 R xs ys
    rw [show ys = zs from e]
    exact r2
/-- .. each with just one answer -/
theorem Ok.lcOe {f : α → O γ} (g : α → γ) {xs : List α} {Q : List γ → Prop} (hl : xs.length ≤ sizeLine) (h : ∀ x ∈ xs, f x = .ok (g x)) (k : Q (xs.map g)) : Ok (G.lcO f xs) Q := by
  refine (Ok.lcO (fun x y => y = g x) hl fun x hx => ⟨_, h x hx, rfl⟩).imp fun ys r => ?_
  rw [r.map]
  exact k
theorem Ok.lcE {f : α → O (Option γ)} (R : α → Option γ → Prop) {xs : List α} (hl : xs.length ≤ sizeLine) (h : ∀ x ∈ xs, Ok (f x) (R x)) : Ok (G.lcE f xs) fun ys => ∃ os, F2 R xs os ∧ ys = os.filterMap id := by
  unfold G.lcE
  refine (Ok.lcW (fun _ => True) R hl (fun x hx s _ => ?_) trivial).bd ?_
  · obtain ⟨y, e, r⟩ := h x hx
    rw [e]
    exact ⟨_, rfl, r, trivial⟩
  · rintro ⟨ys, _⟩ ⟨_, os, r, e⟩
    exact Ok.ret ⟨os, r, e⟩
theorem Ok.lcM {f : α → γ} {xs : List α} {Q : List γ → Prop} (hl : xs.length ≤ sizeLine) (k : Q (xs.map f)) : Ok (G.lcM f xs) Q := Ok.grd hl k
theorem Ok.lcF {b : α → Bool} {f : α → γ} {xs : List α} {Q : List γ → Prop} (hl : xs.length ≤ sizeLine) (k : Q ((xs.filter b).map f)) : Ok (G.lcF b f xs) Q := Ok.grd hl k
/-! loops -/
theorem Ok.forN {f : α → σ → O σ} (I : List α → σ → Prop) {Q : σ → Prop} (step : ∀ x xs s, I (x :: xs) s → Ok (f x s) (I xs)) (fin : ∀ s, I [] s → Q s) : ∀ {xs : List α} {s : σ}, I xs s → Ok (G.forN f xs s) Q
  | [], s, h => ⟨s, rfl, fin s h⟩
  | x :: xs, s, h => by
    unfold G.forN
    exact (step x xs s h).bd fun s' h' => Ok.forN I step fin h'
theorem Ok.forR {ρτ : Type} {f : α → σ → O (Stp σ ρτ)} (I : List α → σ → Prop) {Q : Sum ρτ σ → Prop} (step : ∀ x xs s, I (x :: xs) s → Ok (f x s) fun z => match z with | .on s => I xs s | .out s => Q (.inr s) | .rt v => Q (.inl v)) (fin : ∀ s, I [] s → Q (.inr s)) : ∀ {xs : List α} {s : σ}, I xs s → Ok (G.forR f xs s) Q
  | [], s, h => ⟨.inr s, rfl, fin s h⟩
  | x :: xs, s, h => by
    unfold G.forR
    refine (step x xs s h).bd fun z hz => ?_
    cases z with
    | on s => exact Ok.forR I step fin hz
    | out s => exact Ok.ret hz
    | rt v => exact Ok.ret hz
theorem whN_ok {c : σ → O Bool} {b : σ → O σ} (μ : σ → Nat) (I : σ → Prop) (hc : ∀ s, I s → ∃ v, c s = .ok v) (step : ∀ s, I s → c s = .ok true → Ok (b s) fun s' => I s' ∧ μ s' < μ s) : ∀ (n : Nat) (s : σ), μ s < n → I s → ∃ s', whN c b n s = .ok s' ∧ I s' ∧ c s' = .ok false
  | 0, s, h, _ => absurd h (Nat.not_lt_zero _)
  | n + 1, s, h, hs => by
    obtain ⟨v, e⟩ := hc s hs
    unfold whN
    rw [e]
    simp only [O.ok_bind]
    cases v with
    | true =>
      obtain ⟨s1, e1, h1, h2⟩ := step s hs e
      rw [if_pos rfl, e1]
      exact whN_ok μ I hc step n s1 (by omega) h1
    | false => exact ⟨s, rfl, hs, e⟩
theorem Ok.wh {c : σ → O Bool} {b : σ → O σ} (μ : σ → Nat) (I : σ → Prop) {Q : σ → Prop} (hc : ∀ s, I s → ∃ v, c s = .ok v) (step : ∀ s, I s → c s = .ok true → Ok (b s) fun s' => I s' ∧ μ s' < μ s) {s : σ} (h : I s) (fin : ∀ s', I s' → c s' = .ok false → Q s') : Ok (whO c b s) Q := by
  obtain ⟨s', e, h1, h2⟩ := whN_ok μ I hc step (μ s + 1) s (by omega) h
  exact ⟨s', whO_of e, fin s' h1 h2⟩
end
/-! ### sorted -/
section
variable {α : Type} {e : α → D} {p : α → PyData} {n : Nat}
theorem dlt_trans {a b c : PyData} (h1 : PySem.W.dataLt a b = true) (h2 : PySem.W.dataLt b c = true) : PySem.W.dataLt a c = true := lex_trans _ _ _ h1 h2
theorem lt_trans {a b c : α} (h1 : lt p a b = true) (h2 : lt p b c = true) : lt p a c = true := dlt_trans h1 h2
end
end G
/-! T4: repr of typed data. -/
namespace G
open PySem PySem.Spec PyProof.Rows L2 PyProof
/-- it has a repr of at most n signs; of depth at most k; b: no list within, else no dict -/
structure Rpr (d : D) (n k : Nat) (b : Bool) : Prop where
  ex : ∃ p, toPyR d = some p ∧ p.showable = true ∧ p.shown.length ≤ n ∧ p.depth ≤ k ∧ (if b = true then noL d = true else p.hasDict = false)
theorem Rpr.ok {d : D} {n k : Nat} {b : Bool} (h : Rpr d n k b) (hn : n ≤ sizeLine) (hk : k ≤ 60) : ∃ s, reprO d = .ok s := by
  obtain ⟨p, e, h1, h2, h3, h4⟩ := h
  refine ⟨p.shown, ?_⟩
  have : reprOk d p = true := by
    unfold reprOk
    rw [h1, decide_eq_true (by omega : p.shown.length ≤ sizeLine), decide_eq_true (by omega : p.depth ≤ 60)]
    cases b with
    | true => simp only [if_true] at h4; rw [h4]; simp
    | false => simp only [Bool.false_eq_true, if_false] at h4; rw [h4]; simp
  simp only [reprO, dRepr, e, Option.bind, this, if_true, opS]
theorem Rpr.mono {d : D} {n k n' k' : Nat} {b : Bool} (h : Rpr d n k b) (hn : n ≤ n') (hk : k ≤ k') : Rpr d n' k' b := by
  obtain ⟨p, e, h1, h2, h3, h4⟩ := h
  exact ⟨p, e, h1, by omega, by omega, h4⟩
theorem rpr_int {i : Int} {b : Bool} (h : i.natAbs.log2 < 1920) : Rpr (.int i) 1921 0 b := ⟨.int i, rfl, by simp [PyData.showable, h], int_text_len_1921 h, Nat.le_refl _, by cases b <;> rfl⟩
theorem rpr_int' {i : Int} {b : Bool} (h0 : -(10 ^ 40) < i) (h : i < 10 ^ 40) : Rpr (.int i) 1921 0 b := by
  refine rpr_int ?_
  have h1 : i.natAbs < 2 ^ 140 := by omega
  by_cases z : i.natAbs = 0
  · rw [z]; decide
  · have := (Nat.log2_lt z).mpr h1
    omega
theorem rpr_str {x : Str} {b : Bool} (h : ∀ c ∈ x.cps.toList, c < 16 ^ 8) : Rpr (.str x) (10 * x.length + 2) 0 b := ⟨.str x, rfl, rfl, PySem.StrLaws.reprText_len x h, Nat.le_refl _, by cases b <;> rfl⟩
theorem toPyRL_of : ∀ {xs : List D} {n k : Nat} {b : Bool}, (∀ x ∈ xs, Rpr x n k b) → ∃ ps, toPyRL xs = some ps ∧ PyData.showableAll ps = true ∧ piled (PyData.shownAll ps) ≤ xs.length * (n + 2) ∧ PyData.depthAll ps ≤ k + 1 ∧ ps.length = xs.length ∧ (if b = true then noLL xs = true else PyData.hasDictAll ps = false)
  | [], n, k, b, _ => ⟨[], rfl, rfl, by simp [PyData.shownAll, piled], Nat.zero_le _, rfl, by cases b <;> rfl⟩
  | x :: xs, n, k, b, h => by
    obtain ⟨p, e, h1, h2, h3, h4⟩ := h x (List.mem_cons_self ..)
    obtain ⟨ps, e', g1, g2, g3, g5, g4⟩ := toPyRL_of (xs := xs) fun y hy => h y (List.mem_cons_of_mem _ hy)
    refine ⟨p :: ps, by simp only [toPyRL, e, e'], by simp only [PyData.showableAll, h1, g1, Bool.and_self], ?_, ?_, by simp [g5], ?_⟩
    · simp only [PyData.shownAll, piled_cons, List.length_cons, Nat.add_mul]
      omega
    · simp only [PyData.depthAll]
      omega
    · cases b with
      | true => simp only [if_true] at h4 g4 ⊢; simp only [noLL, h4, g4, Bool.and_self]
      | false => simp only [Bool.false_eq_true, if_false] at h4 g4 ⊢; simp only [PyData.hasDictAll, h4, g4, Bool.or_self]
theorem join_le (ts : List Str) : (Str.join ", " ts).length ≤ piled ts := by
  by_cases h : ts = []
  · subst h; exact Nat.zero_le _
  · have := join_length_add ts h
    omega
theorem rpr_tup {xs : List D} {n k : Nat} {b : Bool} (h : ∀ x ∈ xs, Rpr x n k b) : Rpr (.tup xs) (xs.length * (n + 2) + 3) (k + 2) b := by
  obtain ⟨ps, e, g1, g2, g3, g5, g4⟩ := toPyRL_of h
  refine ⟨.tuple ps, by simp only [toPyR, e, Option.map], by simpa only [PyData.showable] using g1, ?_, ?_, ?_⟩
  · show (tupleText (PyData.shownAll ps)).length ≤ _
    unfold tupleText
    have := join_le (PyData.shownAll ps)
    rw [strLen_append, strLen_append]
    have h1 : (("(" : String) : Str).length = 1 := rfl
    have h2 : (((if (PyData.shownAll ps).length == 1 then ",)" else ")" : String)) : Str).length ≤ 2 := by split <;> decide
    omega
  · simp only [PyData.depth]
    omega
  · cases b with
    | true => simpa only [if_true, noL] using g4
    | false => simpa only [Bool.false_eq_true, if_false, PyData.hasDict] using g4
end G
/-! T6: typed programs: exceptions as values. -/
namespace G
open PySem PySem.Spec PyProof.Rows L2
def eX (x : Ex) : D := .exc x.c x.fs
section
variable {R β α γ δ : Type} [Rz R] {E : Env → Prop} {P : β → R → Prop} {t : O β} {ρ : Env}
/-- raise C(v) -/
theorem Sm.rsF {β : Type} {P : β → SR → Prop} {c : Nat} {m : M D} {d : D} {ρ' : Env} {k : Env → SR} (h : m ρ = .ok d ρ') (hE : E ρ') : Sm E P (sqS (mRsF c m ρ) k) (.er ⟨c, [d]⟩) := by
  unfold Sm SmB
  refine ⟨ρ', ?_, hE⟩
  unfold mRsF
  rw [h]
  rfl
end
/-! try .. except T as n -/
def tryX {α : Type} (tb : O α) (caught : Nat → Bool) (th : Ex → O α) : O α := match tb with
  | .ok z => .ok z
  | .er x => if caught x.c = true then noX (th x) else .er x
  | .no => .no
theorem SmB.trA {γ J : Type} {E : Env → Prop} {E1 : J → Env} {P : γ → SR → Prop} {caught : Nat → Bool} {i : Nat} {b h : MS} {tb : O γ} {th : Ex → O γ} {ρ : Env} (hP : ∀ z x ρ, P z (.er x ρ) → False) (hb : SmB (fun ρ => ∃ j, ρ = E1 j) P (b ρ) tb) (hE : ∀ j, E (E1 j)) (hh : ∀ x j, SmB (fun _ => True) (fun z r => P z (asEnd i r)) (h ((E1 j).set i (some (eX x)))) (th x)) : SmB E P (mTryAs caught i b h ρ) (tryX tb caught th) := by
  unfold tryX mTryAs
  cases tb with
  | ok z =>
    have hb : P z (b ρ) := hb
    cases hr : b ρ with
    | er x ρ1 => rw [hr] at hb; exact (hP _ _ _ hb).elim
    | nx ρ1 => rw [hr] at hb; exact hb
    | rt d ρ1 => rw [hr] at hb; exact hb
    | bk ρ1 => rw [hr] at hb; exact hb
    | ct ρ1 => rw [hr] at hb; exact hb
    | no => rw [hr] at hb; exact hb
  | er x =>
    obtain ⟨_, e, j, rfl⟩ := hb
    rw [e]
    show SmB E P (if caught x.c = true then asEnd i (h ((E1 j).set i (some (.exc x.c x.fs)))) else .er x (E1 j)) _
    simp only
    split
    · have := hh x j
      cases hth : th x with
      | ok z =>
        rw [hth] at this
        exact this
      | er z => trivial
      | no => trivial
    · exact ⟨_, rfl, hE j⟩
  | no => trivial
theorem Sm.trA {γ J : Type} {E : Env → Prop} {E1 : J → Env} {P : γ → SR → Prop} {caught : Nat → Bool} {i : Nat} {b h : MS} {tb : O γ} {th : Ex → O γ} {ρ : Env} (hP : ∀ z x ρ, P z (.er x ρ) → False) (hb : Sm (fun ρ => ∃ j, ρ = E1 j) P (b ρ) tb) (hE : ∀ j, E (E1 j)) (hh : ∀ x j, Sm (fun _ => True) (fun z r => P z (asEnd i r)) (h ((E1 j).set i (some (eX x)))) (th x)) : Sm E P (mTryAs caught i b h ρ) (tryX tb caught th) := by
  unfold Sm at *
  exact SmB.trA hP hb hE hh
/-! isinstance, a field -/
def isX (f : Nat → Option Bool) (x : Ex) : O Bool := match f x.c with
  | some b => .ok b
  | none => .no
def xfC {γ : Type} (g : Nat → Bool) (c : D → O γ) (x : Ex) : O γ := if g x.c = true then (match x.fs[0]? with | some d => c d | none => .no) else .no
theorem os_xfC {γ : Type} {e : γ → D} {c : D → O γ} {g : Nat → Bool} {x : Ex} (h : Cst e c) : Os (dXf g (eX x)) e (xfC g c x) := by
  unfold xfC eX dXf
  simp only
  split
  · cases x.fs[0]? with
    | none => trivial
    | some v =>
      show Os (some v) e (c v)
      cases hc : c v with
      | ok x => exact congrArg some (h.sd v x hc)
      | er x => exact (h.ne v x hc).elim
      | no => trivial
  · trivial
/-! count, index of truths -/
def bixO (xs : List Bool) (y : Bool) : O Int := if y ∈ xs then .ok (xs.idxOf y : Nat) else .no
def bctI (xs : List Bool) (y : Bool) : Int := (xs.count y : Nat)
def bmtK (f : D → List D → Option D) (a : M (List D)) (x : D) : M D := if isLs x = true then a.bind fun ds => M.opt (f x ds) else M.opt none
section
variable {R β γ : Type} [Rz R] {E : Env → Prop} {P : β → R → Prop} {t : O β} {ρ : Env}
theorem Sm.mBmt {f : D → List D → Option D} {o : M D} {a : M (List D)} {k : D → Env → R} (q : Sm E P (sqR (o ρ) fun x ρ1 => sqR (bmtK f a x ρ1) k) t) : Sm E P (sqR (mBmt f o a ρ) k) t := by unfold G.mBmt; rw [sqR_bind]; exact q
theorem Sm.bmtK {f : D → List D → Option D} {xs : List Bool} {a : M (List D)} {k : D → Env → R} (q : Sm E P (sqR (a ρ) fun ds ρ1 => sqR (M.opt (f (eL D.bl xs) ds) ρ1) k) t) : Sm E P (sqR (G.bmtK f a (eL D.bl xs) ρ) k) t := by
  unfold G.bmtK
  rw [if_pos (show isLs (eL D.bl xs) = true from rfl), sqR_bind]
  exact q
end
/-- xs.index, of any kind -/
def lixD (xs : List Str) (d : D) : O Int := match d with
  | .str y => tixO xs y
  | _ => .no
/-! try .. except T: raise .. -/
def tryHo {α : Type} (tb : O α) (caught : Nat → Bool) (th : O α) : O α := match tb with
  | .ok z => .ok z
  | .er x => if caught x.c = true then th else .er x
  | .no => .no
theorem SmB.trH {γ J : Type} {E : Env → Prop} {E1 : J → Env} {P : γ → SR → Prop} {caught : Nat → Bool} {b h : MS} {tb th : O γ} {ρ : Env} (hP : ∀ z x ρ, P z (.er x ρ) → False) (hb : SmB (fun ρ => ∃ j, ρ = E1 j) P (b ρ) tb) (hE : ∀ j, E (E1 j)) (hh : ∀ j, SmB E P (h (E1 j)) th) : SmB E P (mTryH caught b h ρ) (tryHo tb caught th) := by
  unfold tryHo mTryH
  cases tb with
  | ok z =>
    have hb : P z (b ρ) := hb
    cases hr : b ρ with
    | er x ρ1 => rw [hr] at hb; exact (hP _ _ _ hb).elim
    | nx ρ1 => rw [hr] at hb; exact hb
    | rt d ρ1 => rw [hr] at hb; exact hb
    | bk ρ1 => rw [hr] at hb; exact hb
    | ct ρ1 => rw [hr] at hb; exact hb
    | no => rw [hr] at hb; exact hb
  | er x =>
    obtain ⟨_, e, j, rfl⟩ := hb
    rw [e]
    show SmB E P (if caught x.c = true then h (E1 j) else .er x (E1 j)) _
    simp only
    split
    · exact hh j
    · exact ⟨_, rfl, hE j⟩
  | no => trivial
theorem Sm.trH {γ J : Type} {E : Env → Prop} {E1 : J → Env} {P : γ → SR → Prop} {caught : Nat → Bool} {b h : MS} {tb th : O γ} {ρ : Env} (hP : ∀ z x ρ, P z (.er x ρ) → False) (hb : Sm (fun ρ => ∃ j, ρ = E1 j) P (b ρ) tb) (hE : ∀ j, E (E1 j)) (hh : ∀ j, Sm E P (h (E1 j)) th) : Sm E P (mTryH caught b h ρ) (tryHo tb caught th) := by
  unfold Sm at *
  exact SmB.trH hP hb hE hh
theorem NX.ner {γ J : Type} {I : γ → J → Env} (z : γ) (x : Ex) (ρ : Env) (h : NX I z (.er x ρ)) : False := by
  obtain ⟨j, e⟩ := h
  cases e
/-- repr(x) of data or of an instance -/
def reprOK (c : Nat) (MF : MFn) (x : D) : M D := if isObj c x = true then (match MF [x] with
  | .ok (.str y) _ => M.ret (.str y)
  | _ => M.opt none) else M.opt (dRepr [x])
section
variable {R β : Type} [Rz R] {E : Env → Prop} {P : β → R → Prop} {t : O β} {ρ : Env}
theorem Sm.mReprO {c : Nat} {MF : MFn} {a : M D} {k : D → Env → R} (q : Sm E P (sqR (a ρ) fun x ρ1 => sqR (reprOK c MF x ρ1) k) t) : Sm E P (sqR (mReprO c MF a ρ) k) t := by unfold G.mReprO; rw [sqR_bind]; exact q
def reprOO (c : Nat) (t1 : O Str) (x : D) : O Str := if isObj c x = true then noX t1 else reprO x
theorem Sm.reprOK {c : Nat} {MF : MFn} {x : D} {k : D → Env → R} {o : Str → List D} {t1 : O Str} {t2 : Str → O β} (h : FSm MF [x] D.str o t1) (q : ∀ b, Sm E P (k (.str b) ρ) (t2 b)) : Sm E P (sqR (G.reprOK c MF x ρ) k) ((reprOO c t1 x).bind t2) := by
  unfold FSm at h
  unfold G.reprOK reprOO
  split
  · cases t1 with
    | ok b =>
      have e : MF [x] = _ := h
      simp only [e]
      exact q b
    | er x => exact Sm.nil
    | no => exact Sm.nil
  · have hs := os_S (o := dRepr [x])
    unfold reprO
    generalize opS (dRepr [x]) = o at hs ⊢
    cases o with
    | ok b =>
      have hs : dRepr [x] = some (D.str b) := hs
      rw [hs]
      exact q b
    | er x => exact hs.elim
    | no => exact Sm.nil
end
def isKI (c : Nat) (T : Tk) (d : D) : O Bool := if isObj c d = true then .ok false else isK T d
/-! ### a list of one's own by +, str.upper -/
def upO (x : Str) : O Str := grd (PySem.Builtin.Str.tooLong (Txt.upper x).length = false) (Txt.upper x)
def reprLO (d : D) : O Str := opS (dReprL [d])
def mulSO (x : Str) (n : Int) : O Str := grd (MulOk x n) (Txt.mul x n)
/-! ### methods by keyword -/
def mthKK (c n kl l : Nat) (gD : List D → List D → List D) (MF : MFn) (a : M (List D)) (x : D) : M D := if isObj c x = true then a.bind fun zs => if 1 = n ∧ zs.length = kl ∧ (gD [x] zs).length = l then G.frM (MF (gD [x] zs)) else M.opt none else M.opt none
def mthKA (n kl l : Nat) (gD : List D → List D → List D) (MF : MFn) (x : D) (zs : List D) : M D := if 1 = n ∧ zs.length = kl ∧ (gD [x] zs).length = l then G.frM (MF (gD [x] zs)) else M.opt none
section
variable {R β γ : Type} [Rz R] {E : Env → Prop} {P : β → R → Prop} {t : O β} {ρ : Env}
theorem Sm.mMthK {c n kl l : Nat} {gD : List D → List D → List D} {MF : MFn} {o : M D} {a : M (List D)} {k : D → Env → R} (q : Sm E P (sqR (o ρ) fun x ρ1 => sqR (mthKK c n kl l gD MF a x ρ1) k) t) : Sm E P (sqR (mMthK c n kl l gD MF o a ρ) k) t := by unfold G.mMthK; rw [sqR_bind]; exact q
theorem Sm.mthKK {c n kl l : Nat} {gD : List D → List D → List D} {MF : MFn} {x : D} {a : M (List D)} {k : D → Env → R} {t2 : Unit → O β} (q : Sm E P (sqR (a ρ) fun ds ρ1 => sqR (mthKA n kl l gD MF x ds ρ1) k) (t2 ())) : Sm E P (sqR (G.mthKK c n kl l gD MF a x ρ) k) ((isO c x).bind t2) := by
  unfold G.mthKK isO
  split
  · rw [sqR_bind]; exact q
  · exact Sm.nil
theorem Sm.mthKA {n kl l : Nat} {gD : List D → List D → List D} {MF : MFn} {x : D} {ds us : List D} {k : D → Env → R} {f : γ → D} {o : γ → List D} {t1 : O γ} {t2 : γ → O β} (h : FSm MF us f o t1) (hg : 1 = n ∧ ds.length = kl ∧ us.length = l) (hu : gD [x] ds = us) (hE : E ρ) (q : ∀ b, Sm E P (k (f b) ρ) (t2 b)) : Sm E P (sqR (G.mthKA n kl l gD MF x ds ρ) k) (t1.bind t2) := by
  unfold G.mthKA
  rw [hu, if_pos hg]
  exact Sm.frM hE h q
end
/-! ### ==, != and len of what may be an instance -/
def eqOK (c : Nat) (MF : MFn) (x y : D) : M D := if isObj c x = true then (if eqSide c y = true then (match MF [x, y] with
  | .ok (.bl z) _ => M.ret (.bl z)
  | _ => M.opt none) else M.opt none) else M.opt (dEq x y)
def neOK (c : Nat) (MF : MFn) (x y : D) : M D := if isObj c x = true then (if eqSide c y = true then (match MF [x, y] with
  | .ok (.bl z) _ => M.ret (.bl (!z))
  | _ => M.opt none) else M.opt none) else M.opt (dNe x y)
def lenOK (c : Nat) (MF : MFn) (x : D) : M D := if isObj c x = true then (match MF [x] with
  | .ok (.int n) _ => if 0 ≤ n ∧ n < 2 ^ 63 then M.ret (.int n) else M.opt none
  | _ => M.opt none) else M.opt none
def eqOO (c : Nat) (t1 : O Bool) (x y : D) : O Bool := if isObj c x = true then (if eqSide c y = true then noX t1 else .no) else opB (dEq x y)
def neOO (c : Nat) (t1 : O Bool) (x y : D) : O Bool := if isObj c x = true then (if eqSide c y = true then (noX t1).bind fun z => .ok (!z) else .no) else opB (dNe x y)
def lenOO (c : Nat) (t1 : O Int) (x : D) : O Int := if isObj c x = true then (noX t1).bind fun n => (if 0 ≤ n ∧ n < 2 ^ 63 then .ok n else .no) else .no
section
variable {R β : Type} [Rz R] {E : Env → Prop} {P : β → R → Prop} {t : O β} {ρ : Env}
theorem Sm.mEqO {c : Nat} {MF : MFn} {a b : M D} {k : D → Env → R} (q : Sm E P (sqR (a ρ) fun x ρ1 => sqR (b ρ1) fun y ρ2 => sqR (eqOK c MF x y ρ2) k) t) : Sm E P (sqR (mEqO c MF a b ρ) k) t := by unfold G.mEqO; simp only [sqR_bind]; exact q
theorem Sm.mNeO {c : Nat} {MF : MFn} {a b : M D} {k : D → Env → R} (q : Sm E P (sqR (a ρ) fun x ρ1 => sqR (b ρ1) fun y ρ2 => sqR (neOK c MF x y ρ2) k) t) : Sm E P (sqR (mNeO c MF a b ρ) k) t := by unfold G.mNeO; simp only [sqR_bind]; exact q
theorem Sm.mLenO {c : Nat} {MF : MFn} {a : M D} {k : D → Env → R} (q : Sm E P (sqR (a ρ) fun x ρ1 => sqR (lenOK c MF x ρ1) k) t) : Sm E P (sqR (mLenO c MF a ρ) k) t := by unfold G.mLenO; rw [sqR_bind]; exact q
theorem Sm.eqOK {c : Nat} {MF : MFn} {x y : D} {k : D → Env → R} {o : Bool → List D} {t1 : O Bool} {t2 : Bool → O β} (h : FSm MF [x, y] D.bl o t1) (q : ∀ b, Sm E P (k (.bl b) ρ) (t2 b)) : Sm E P (sqR (G.eqOK c MF x y ρ) k) ((eqOO c t1 x y).bind t2) := by
  unfold FSm at h
  unfold G.eqOK eqOO
  split
  · split
    · cases t1 with
      | ok b =>
        have e : MF [x, y] = _ := h
        simp only [e]
        exact q b
      | er x => exact Sm.nil
      | no => exact Sm.nil
    · exact Sm.nil
  · have hs := os_B (o := dEq x y)
    generalize opB (dEq x y) = o at hs ⊢
    cases o with
    | ok b =>
      have hs : dEq x y = some (D.bl b) := hs
      rw [hs]
      exact q b
    | er x => exact hs.elim
    | no => exact Sm.nil
theorem Sm.neOK {c : Nat} {MF : MFn} {x y : D} {k : D → Env → R} {o : Bool → List D} {t1 : O Bool} {t2 : Bool → O β} (h : FSm MF [x, y] D.bl o t1) (q : ∀ b, Sm E P (k (.bl b) ρ) (t2 b)) : Sm E P (sqR (G.neOK c MF x y ρ) k) ((neOO c t1 x y).bind t2) := by
  unfold FSm at h
  unfold G.neOK neOO
  split
  · split
    · cases t1 with
      | ok b =>
        have e : MF [x, y] = _ := h
        simp only [e]
        exact q (!b)
      | er x => exact Sm.nil
      | no => exact Sm.nil
    · exact Sm.nil
  · have hs := os_B (o := dNe x y)
    generalize opB (dNe x y) = o at hs ⊢
    cases o with
    | ok b =>
      have hs : dNe x y = some (D.bl b) := hs
      rw [hs]
      exact q b
    | er x => exact hs.elim
    | no => exact Sm.nil
theorem Sm.lenOK {c : Nat} {MF : MFn} {x : D} {k : D → Env → R} {o : Int → List D} {t1 : O Int} {t2 : Int → O β} (h : FSm MF [x] D.int o t1) (q : ∀ b, Sm E P (k (.int b) ρ) (t2 b)) : Sm E P (sqR (G.lenOK c MF x ρ) k) ((lenOO c t1 x).bind t2) := by
  unfold FSm at h
  unfold G.lenOK lenOO
  split
  · cases t1 with
    | ok n =>
      have e : MF [x] = _ := h
      simp only [e]
      by_cases hb : 0 ≤ n ∧ n < 2 ^ 63
      · simp only [noX, O.ok_bind, if_pos hb]
        exact q n
      · simp only [noX, O.ok_bind, if_neg hb]
        exact Sm.nil
    | er x => exact Sm.nil
    | no => exact Sm.nil
  · exact Sm.nil
end
def boolOK (c : Nat) (MF : MFn) (x : D) : M D := if isObj c x = true then (match MF [x] with
  | .ok (.int n) _ => if 0 ≤ n ∧ n < 2 ^ 63 then M.ret (.bl (n != 0)) else M.opt none
  | _ => M.opt none) else M.opt none
def boolOO (c : Nat) (t1 : O Int) (x : D) : O Bool := if isObj c x = true then (noX t1).bind fun n => (if 0 ≤ n ∧ n < 2 ^ 63 then .ok (n != 0) else .no) else .no
section
variable {R β : Type} [Rz R] {E : Env → Prop} {P : β → R → Prop} {t : O β} {ρ : Env}
theorem Sm.mBoolO {c : Nat} {MF : MFn} {a : M D} {k : D → Env → R} (q : Sm E P (sqR (a ρ) fun x ρ1 => sqR (boolOK c MF x ρ1) k) t) : Sm E P (sqR (mBoolO c MF a ρ) k) t := by unfold G.mBoolO; rw [sqR_bind]; exact q
theorem Sm.boolOK {c : Nat} {MF : MFn} {x : D} {k : D → Env → R} {o : Int → List D} {t1 : O Int} {t2 : Bool → O β} (h : FSm MF [x] D.int o t1) (q : ∀ b, Sm E P (k (.bl b) ρ) (t2 b)) : Sm E P (sqR (G.boolOK c MF x ρ) k) ((boolOO c t1 x).bind t2) := by
  unfold FSm at h
  unfold G.boolOK boolOO
  split
  · cases t1 with
    | ok n =>
      have e : MF [x] = _ := h
      simp only [e]
      by_cases hb : 0 ≤ n ∧ n < 2 ^ 63
      · simp only [noX, O.ok_bind, if_pos hb]
        exact q (n != 0)
      · simp only [noX, O.ok_bind, if_neg hb]
        exact Sm.nil
    | er x => exact Sm.nil
    | no => exact Sm.nil
  · exact Sm.nil
end
end G
/-! T7: repr, of dicts too. -/
namespace G
open PySem PySem.Spec PyProof.Rows L2 PyProof
/-- it has a repr of at most n signs; of depth at most k -/
structure RprL (d : D) (n k : Nat) : Prop where
  ex : ∃ p, toPyR d = some p ∧ p.showable = true ∧ p.shown.length ≤ n ∧ p.depth ≤ k
theorem RprL.mono {d : D} {n k n' k' : Nat} (h : RprL d n k) (hn : n ≤ n') (hk : k ≤ k') : RprL d n' k' := by
  obtain ⟨p, e, h1, h2, h3⟩ := h
  exact ⟨p, e, h1, by omega, by omega⟩
theorem RprL.ok {d : D} {n k : Nat} (h : RprL d n k) (hn : n ≤ sizeLine) (hk : k ≤ 60) : ∃ s, reprLO d = .ok s := by
  obtain ⟨p, e, h1, h2, h3⟩ := h
  refine ⟨p.shown, ?_⟩
  have : reprOkL p = true := by
    unfold reprOkL
    rw [h1, decide_eq_true (by omega : p.shown.length ≤ sizeLine), decide_eq_true (by omega : p.depth ≤ 60)]
    rfl
  simp only [reprLO, dReprL, e, Option.bind, this, if_true, opS]
end G
/-! T8: typed: zip of two as long. -/
namespace G
open PySem PySem.Spec PyProof.Rows L2
def zpSO {α β : Type} (oa : Option (List α)) (ob : Option (List β)) : O (List (α × β)) := match oa, ob with
  | some xs, some ys => if xs.length = ys.length then .ok (xs.zip ys) else .no
  | _, _ => .no
section
variable {R β : Type} [Rz R] {E : Env → Prop} {P : β → R → Prop} {t : O β} {ρ : Env}
theorem Sm.mZpS {a : M (List D)} {k : List D → Env → R} (q : Sm E P (sqR (a ρ) fun x ρ1 => sqR (M.opt (dZpS x) ρ1) k) t) : Sm E P (sqR (mZpS a ρ) k) t := by unfold G.mZpS; rw [sqR_bind]; exact q
end
end G
/-! T9: typed: dicts (lists of pairs), int >> int, int & 1. -/
namespace G
open PySem PySem.Spec PyProof.Rows L2
variable {α β γ κ τ : Type}
def eDk (kt : κ → Key) (e : τ → D) (l : List (κ × τ)) : D := .dct (l.map fun p => kD (kt p.1)) (l.map fun p => e p.2)
def kS : Str → Key := Sum.inr
def kI : Int → Key := Sum.inl
section
variable [DecidableEq κ]
def dputT (l : List (κ × τ)) (k : κ) (x : τ) : List (κ × τ) := if (l.any fun p => decide (p.1 = k)) = true then l.map (fun p => if p.1 = k then (p.1, x) else p) else l ++ [(k, x)]
def dlk : List (κ × τ) → κ → Option τ
  | [], _ => none
  | p :: r, k => if p.1 = k then some p.2 else dlk r k
def dmk (l : List (κ × τ)) : List (κ × τ) := l.foldl (fun a p => dputT a p.1 p.2) []
variable {kt : κ → Key} {e : τ → D}
theorem ksO_eDk {l : List (κ × τ)} : ksO (l.map fun p => kD (kt p.1)) = some (l.map fun p => kt p.1) := by
  have := ksO_map (l.map fun p => kt p.1)
  rw [List.map_map] at this
  exact this
end
section
variable {R β : Type} [Rz R] {E : Env → Prop} {P : β → R → Prop} {ρ ρ1 : Env} {t : O β}
theorem Sm.mDc {vs : List Nat} {it : M (List D)} {g : MG} {tt : M Bool} {e : M D} {k : D → Env → R} (q : Sm E P (sqR (G.mLc vs it g tt e ρ) fun d ρ1 => sqR (M.opt (dcD d) ρ1) k) t) : Sm E P (sqR (G.mDc vs it g tt e ρ) k) t := by unfold G.mDc; rw [sqR_bind]; exact q
end
/-! ### a, b, .. = a list of that length -/
def un2 : List τ → O (τ × τ)
  | [a, b] => .ok (a, b)
  | _ => .no
def un3 : List τ → O (τ × τ × τ)
  | [a, b, c] => .ok (a, b, c)
  | _ => .no
section
variable {β : Type} {E : Env → Prop} {P : β → SR → Prop} {ρ : Env} {t : O β}
theorem Sm.un2 {gs : MGs} {k : Env → SR} {l : List τ} {e : τ → D} {t2 : τ × τ → O β} (q : ∀ p : τ × τ, Sm E P (sqG (gs [e p.1, e p.2] ρ) k) (t2 p)) : Sm E P (sqG (gTL 2 gs (eL e l) ρ) k) ((G.un2 l).bind t2) := by
  match l with
  | [a, b] => exact q (a, b)
  | [] | [_] | _ :: _ :: _ :: _ => exact Sm.nil
theorem Sm.un3 {gs : MGs} {k : Env → SR} {l : List τ} {e : τ → D} {t2 : τ × τ × τ → O β} (q : ∀ p : τ × τ × τ, Sm E P (sqG (gs [e p.1, e p.2.1, e p.2.2] ρ) k) (t2 p)) : Sm E P (sqG (gTL 3 gs (eL e l) ρ) k) ((G.un3 l).bind t2) := by
  match l with
  | [a, b, c] => exact q (a, b, c)
  | [] | [_] | [_, _] | _ :: _ :: _ :: _ :: _ => exact Sm.nil
end
/-! ### int >> int, int & 1 -/
def srI (i j : Int) : O Int := grd (0 ≤ j) (i / 2 ^ j.toNat)
end G
/-! T10: typed: xs.index(x), xs a list of plain data. -/
namespace G
open PySem PySem.Spec PyProof.Rows L2
section
variable {α : Type} [DecidableEq α] {e : α → D} {p : α → PyData} {n : Nat}
def idxT : List α → α → Option Nat
  | [], _ => none
  | y :: r, x => if y = x then some 0 else (idxT r x).map (· + 1)
def pixO (xs : List α) (x : α) : O Int := match idxT xs x with
  | some j => .ok (j : Nat)
  | none => .no
end
def pixK (a : M (List D)) (d : D) : M D := if isLstD d = true then a.bind fun ds => M.opt (dPix d ds) else M.opt none
section
variable {R α β : Type} [Rz R] {E : Env → Prop} {P : β → R → Prop} {ρ : Env} {t : O β}
theorem Sm.mPix {o : M D} {a : M (List D)} {k : D → Env → R} (q : Sm E P (sqR (o ρ) fun x ρ1 => sqR (G.pixK a x ρ1) k) t) : Sm E P (sqR (G.mPix o a ρ) k) t := by unfold G.mPix; rw [sqR_bind]; exact q
theorem Sm.pixK {e : α → D} {xs : List α} {a : M (List D)} {k : D → Env → R} (q : Sm E P (sqR (a ρ) fun ds ρ1 => sqR (M.opt (dPix (eL e xs) ds) ρ1) k) t) : Sm E P (sqR (G.pixK a (eL e xs) ρ) k) t := by
  unfold G.pixK
  rw [if_pos (show isLstD (eL e xs) = true from rfl), sqR_bind]
  exact q
end
end G
/-! T11: typed: while loops that may return or be left. -/
namespace G
open PySem PySem.Spec PyProof.Rows L2
def whNR {σ ρ : Type} (c : σ → O Bool) (b : σ → O (Stp σ ρ)) : Nat → σ → O (Sum ρ σ)
  | 0, _ => .no
  | n + 1, s => (c s).bind fun k => if k = true then (b s).bind fun z => match z with
    | .on s => whNR c b n s
    | .out s => .ok (.inr s)
    | .rt v => .ok (.inl v) else .ok (.inr s)
open Classical in
noncomputable def whRO {σ ρ : Type} (c : σ → O Bool) (b : σ → O (Stp σ ρ)) (s : σ) : O (Sum ρ σ) := if h : ∃ n x, whNR c b n s = .ok x then whNR c b (choose h) s else .no
theorem whNR_mono {σ ρ : Type} {c : σ → O Bool} {b : σ → O (Stp σ ρ)} : ∀ {n : Nat} {s : σ} {x : Sum ρ σ}, whNR c b n s = .ok x → ∀ k, whNR c b (n + k) s = .ok x
  | 0, s, x, h, k => by cases h
  | n + 1, s, x, h, k => by
    rw [Nat.add_right_comm]
    unfold whNR at h ⊢
    cases hc : c s with
    | ok v =>
      rw [hc] at h
      simp only [O.ok_bind] at h ⊢
      split at h
      · rename_i hv
        rw [if_pos hv]
        cases hb : b s with
        | ok z =>
          rw [hb] at h
          simp only [O.ok_bind] at h ⊢
          cases z with
          | on s1 => exact whNR_mono (n := n) h k
          | out s1 => exact h
          | rt v => exact h
        | er x => rw [hb] at h; cases h
        | no => rw [hb] at h; cases h
      · rename_i hv
        rw [if_neg hv]
        exact h
    | er x => rw [hc] at h; cases h
    | no => rw [hc] at h; cases h
theorem whRO_of {σ ρ : Type} {c : σ → O Bool} {b : σ → O (Stp σ ρ)} {n : Nat} {s : σ} {x : Sum ρ σ} (h : whNR c b n s = .ok x) : whRO c b s = .ok x := by
  have hx : ∃ n x, whNR c b n s = .ok x := ⟨n, x, h⟩
  unfold whRO
  rw [dif_pos hx]
  obtain ⟨y, hy⟩ := Classical.choose_spec hx
  have h1 := whNR_mono h (Classical.choose hx)
  have h2 := whNR_mono hy n
  rw [Nat.add_comm] at h2
  rw [h1] at h2
  cases h2
  exact hy
section
variable {E : Env → Prop}
theorem SmB.whNR {σ ρτ J : Type} {I : σ → J → Env} {Q : ρτ → SR → Prop} {c : σ → O Bool} {bt : σ → O (Stp σ ρτ)} {mc : M Bool} {b : MS} (hc : ∀ s j, SmB (fun _ => True) (fun x r => r = .ok x (I s j)) (mc (I s j)) (c s)) (hb : ∀ s j, c s = .ok true → SmB E (ST I Q) (b (I s j)) (bt s)) : ∀ (n : Nat) (s : σ) (x : Sum ρτ σ) (j : J), G.whNR c bt n s = .ok x → SO I Q x (whL mc b n (I s j))
  | 0, s, x, j, e => by cases e
  | n + 1, s, x, j, e => by
    unfold G.whNR at e
    have h1 := hc s j
    have h2 := hb s j
    unfold whL MS.of
    cases hs : c s with
    | ok v =>
      rw [hs] at e h1 h2
      have h1 : mc (I s j) = .ok v (I s j) := h1
      rw [h1]
      simp only [O.ok_bind] at e ⊢
      cases v with
      | true =>
        simp only [if_true] at e ⊢
        cases hbs : bt s with
        | ok z =>
          rw [hbs] at e
          have h3 := h2 rfl
          rw [hbs] at h3
          simp only [O.ok_bind] at e
          cases z with
          | on s1 =>
            obtain ⟨j1, e1⟩ := h3
            have ih := SmB.whNR hc hb n s1 x j1 e
            rcases e1 with e1 | e1 <;> simp only [e1] <;> exact ih
          | out s1 =>
            obtain ⟨j1, e1⟩ := h3
            cases e
            simp only [e1]
            exact ⟨j1, rfl⟩
          | rt v =>
            obtain ⟨⟨d, ρ1, e1⟩, h4⟩ := h3
            cases e
            simp only [e1]
            exact ⟨⟨d, ρ1, rfl⟩, by rw [← e1]; exact h4⟩
        | er x => rw [hbs] at e; cases e
        | no => rw [hbs] at e; cases e
      | false =>
        simp only [Bool.false_eq_true, if_false] at e ⊢
        cases e
        exact ⟨j, rfl⟩
    | er x => rw [hs] at e; cases e
    | no => rw [hs] at e; cases e
theorem SmB.whR {σ ρτ J : Type} {I : σ → J → Env} {Q : ρτ → SR → Prop} {c : σ → O Bool} {bt : σ → O (Stp σ ρτ)} {mc : M Bool} {b : MS} (hc : ∀ s j, SmB (fun _ => True) (fun x r => r = .ok x (I s j)) (mc (I s j)) (c s)) (hb : ∀ s j, c s = .ok true → SmB E (ST I Q) (b (I s j)) (bt s)) (s : σ) (j : J) : SmB E (SO I Q) (mWh mc b (I s j)) (whRO c bt s) := by
  cases e : whRO c bt s with
  | ok x =>
    have hx : ∃ n x, G.whNR c bt n s = .ok x := by
      unfold whRO at e
      split at e
      · assumption
      · cases e
    obtain ⟨n, y, hy⟩ := hx
    have h1 := SmB.whNR hc hb n s y j hy
    have e2 := whRO_of hy
    rw [e] at e2
    cases e2
    have hne : whL mc b n (I s j) ≠ .no := by
      intro z
      rw [z] at h1
      cases x with
      | inl v => obtain ⟨⟨d, ρ1, e1⟩, _⟩ := h1; cases e1
      | inr s1 => obtain ⟨j1, e1⟩ := h1; cases e1
    have hn : ∃ n, whL mc b n (I s j) ≠ .no := ⟨n, hne⟩
    show SO I Q x (mWh mc b (I s j))
    unfold mWh
    rw [dif_pos hn]
    have k1 := whL_mono (c := mc) (b := b) (n := n) (ρ := I s j) hne (Classical.choose hn)
    have k2 := whL_mono (c := mc) (b := b) (Classical.choose_spec hn) n
    rw [Nat.add_comm] at k2
    rw [← k2, k1]
    exact h1
  | er x =>
    unfold whRO at e
    split at e
    · rename_i hx
      obtain ⟨y, hy⟩ := Classical.choose_spec hx
      rw [hy] at e
      cases e
    · cases e
  | no => trivial
theorem Sm.whR {σ ρτ J : Type} {I : σ → J → Env} {Q : ρτ → SR → Prop} {c : σ → O Bool} {bt : σ → O (Stp σ ρτ)} {mc : M Bool} {b : MS} (hc : ∀ s j, Sm (fun _ => True) (fun x r => r = .ok x (I s j)) (mc (I s j)) (c s)) (hb : ∀ s j, c s = .ok true → Sm E (ST I Q) (b (I s j)) (bt s)) (s : σ) (j : J) : Sm E (SO I Q) (mWh mc b (I s j)) (whRO c bt s) := by
  unfold Sm at *
  exact SmB.whR hc hb s j
end
section
variable {σ ρ : Type} {c : σ → O Bool} {b : σ → O (Stp σ ρ)}
theorem whNR_ok (μ : σ → Nat) (I : σ → Prop) {Q : Sum ρ σ → Prop} (hc : ∀ s, I s → ∃ v, c s = .ok v) (step : ∀ s, I s → c s = .ok true → Ok (b s) fun z => match z with | .on s' => I s' ∧ μ s' < μ s | .out s' => Q (.inr s') | .rt v => Q (.inl v)) (fin : ∀ s', I s' → c s' = .ok false → Q (.inr s')) : ∀ (n : Nat) (s : σ), μ s < n → I s → ∃ x, whNR c b n s = .ok x ∧ Q x
  | 0, s, h, _ => absurd h (Nat.not_lt_zero _)
  | n + 1, s, h, hs => by
    obtain ⟨v, e⟩ := hc s hs
    unfold whNR
    rw [e]
    simp only [O.ok_bind]
    cases v with
    | true =>
      obtain ⟨z, e1, h1⟩ := step s hs e
      rw [if_pos rfl, e1]
      simp only [O.ok_bind]
      cases z with
      | on s1 => exact whNR_ok μ I hc step fin n s1 (by have := h1.2; omega) h1.1
      | out s1 => exact ⟨_, rfl, h1⟩
      | rt v => exact ⟨_, rfl, h1⟩
    | false => exact ⟨_, rfl, fin s hs e⟩
theorem Ok.whR (μ : σ → Nat) (I : σ → Prop) {Q : Sum ρ σ → Prop} (hc : ∀ s, I s → ∃ v, c s = .ok v) (step : ∀ s, I s → c s = .ok true → Ok (b s) fun z => match z with | .on s' => I s' ∧ μ s' < μ s | .out s' => Q (.inr s') | .rt v => Q (.inl v)) (fin : ∀ s', I s' → c s' = .ok false → Q (.inr s')) {s : σ} (h : I s) : Ok (whRO c b s) Q := by
  obtain ⟨x, e, h1⟩ := whNR_ok μ I hc step fin (μ s + 1) s (by omega) h
  exact ⟨x, whRO_of e, h1⟩
end
end G
/-! T12: typed: == with an instance at either side. -/
namespace G
open PySem PySem.Spec PyProof.Rows L2
def eqBK (c : Nat) (MF : MFn) (x y : D) : M D := if isObj c x = true then (if eqSide c y = true then (match MF [x, y] with
  | .ok (.bl z) _ => M.ret (.bl z)
  | _ => M.opt none) else M.opt none) else if isObj c y = true then (if lkD x = true then (match MF [y, x] with
  | .ok (.bl z) _ => M.ret (.bl z)
  | _ => M.opt none) else M.opt none) else M.opt (dEq x y)
def eqBO (c : Nat) (t1 t2 : O Bool) (x y : D) : O Bool := if isObj c x = true then (if eqSide c y = true then noX t1 else .no) else if isObj c y = true then (if lkD x = true then noX t2 else .no) else opB (dEq x y)
section
variable {R β : Type} [Rz R] {E : Env → Prop} {P : β → R → Prop} {t : O β} {ρ : Env}
theorem Sm.mEqB {c : Nat} {MF : MFn} {a b : M D} {k : D → Env → R} (q : Sm E P (sqR (a ρ) fun x ρ1 => sqR (b ρ1) fun y ρ2 => sqR (eqBK c MF x y ρ2) k) t) : Sm E P (sqR (mEqB c MF a b ρ) k) t := by unfold G.mEqB; simp only [sqR_bind]; exact q
theorem Sm.eqBK {c : Nat} {MF : MFn} {x y : D} {k : D → Env → R} {o o' : Bool → List D} {t1 t1' : O Bool} {t2 : Bool → O β} (h : FSm MF [x, y] D.bl o t1) (h' : FSm MF [y, x] D.bl o' t1') (q : ∀ b, Sm E P (k (.bl b) ρ) (t2 b)) : Sm E P (sqR (G.eqBK c MF x y ρ) k) ((eqBO c t1 t1' x y).bind t2) := by
  unfold FSm at h h'
  unfold G.eqBK eqBO
  split
  · split
    · cases t1 with
      | ok b =>
        have e : MF [x, y] = _ := h
        simp only [e]
        exact q b
      | er x => exact Sm.nil
      | no => exact Sm.nil
    · exact Sm.nil
  · split
    · split
      · cases t1' with
        | ok b =>
          have e : MF [y, x] = _ := h'
          simp only [e]
          exact q b
        | er x => exact Sm.nil
        | no => exact Sm.nil
      · exact Sm.nil
    · have hs := os_B (o := dEq x y)
      generalize opB (dEq x y) = o at hs ⊢
      cases o with
      | ok b =>
        have hs : dEq x y = some (D.bl b) := hs
        rw [hs]
        exact q b
      | er x => exact hs.elim
      | no => exact Sm.nil
end
end G
/-! T13: typed: dicts whose keys are tuples of ints. -/
namespace G
open PySem PySem.Spec PyProof.Rows L2
variable {τ : Type}
def eDI (e : τ → D) (l : List (List Int × τ)) : D := .dti (l.map (·.1)) (l.map fun p => e p.2)
def hasI (l : List (List Int × τ)) (k : List Int) : Bool := l.any fun p => decide (p.1 = k)
theorem iO_eT (k : List Int) : iO (eT D.int k) = some k := intsO_map k
theorem haG_map (l : List (List Int × τ)) (k : List Int) : haG (l.map (·.1)) k = hasI l k := by
  unfold haG hasI
  rw [List.any_map]
  rfl
theorem skG_map {e : τ → D} {k : List Int} {x : τ} : ∀ {l : List (List Int × τ)}, skG (l.map (·.1)) (l.map fun p => e p.2) k (e x) = (l.map (fun p => if p.1 = k then (p.1, x) else p)).map fun p => e p.2
  | [] => rfl
  | p :: r => by
    simp only [List.map_cons, skG]
    rw [skG_map (l := r)]
    by_cases h : p.1 = k
    · rw [if_pos h, if_pos h]
    · rw [if_neg h, if_neg h]
theorem put_dti {e : τ → D} (l : List (List Int × τ)) (k : List Int) (x : τ) : D.dti (pkG (l.map (·.1)) k) (ukG (l.map (·.1)) (l.map fun p => e p.2) k (e x)) = eDI e (dputT l k x) := by
  unfold eDI pkG ukG dputT
  rw [haG_map]
  unfold hasI
  by_cases h : (l.any fun p => decide (p.1 = k)) = true
  · rw [if_pos h, if_pos h, if_pos h, skG_map]
    congr 1
    rw [List.map_map]
    refine List.map_congr_left fun p _ => ?_
    simp only [Function.comp]
    split <;> rfl
  · rw [if_neg h, if_neg h, if_neg h]
    simp
def dputI (l : List (List Int × τ)) (k : List Int) (x : τ) : O (List (List Int × τ)) := if l.length < sizeLine then .ok (dputT l k x) else .no
section
variable {R β : Type} [Rz R] {E : Env → Prop} {P : β → R → Prop} {t : O β} {ρ : Env}
theorem Sm.mDspI {a b : M D} {e : τ → D} {x : List Int} {y : τ} {k : D → Env → R} (ha : a ρ = .ok (eT D.int x) ρ) (hb : b ρ = .ok (e y) ρ) (q : Sm E P (k (eDI e [(x, y)]) ρ) t) : Sm E P (sqR (G.mDspI a b ρ) k) t := by
  have h : G.mDspI a b ρ = .ok (eDI e [(x, y)]) ρ := by
    unfold G.mDspI M.bind
    rw [ha]
    simp only
    rw [hb]
    simp only [iO_eT, Option.map_some, M.opt]
    rfl
  rw [h]
  exact q
end
section
variable {β : Type} {E : Env → Prop} {P : β → SR → Prop} {ρ : Env}
theorem Sm.gSbI {i : Nat} {mi : M D} {e : τ → D} {l : List (List Int × τ)} {j : List Int} {v : τ} {k : Env → SR} {t2 : List (List Int × τ) → O β} (h0 : ρ[i]? = some (some (eDI e l))) (hm : mi ρ = .ok (eT D.int j) ρ) (q : ∀ ys, Sm E P (k (ρ.set i (some (eDI e ys)))) (t2 ys)) : Sm E P (sqG (gSbI i mi (e v) ρ) k) ((dputI l j v).bind t2) := by
  unfold G.gSbI dputI
  have h0' : ρ[i]? = some (some (.dti (l.map (·.1)) (l.map fun p => e p.2))) := h0
  rw [h0']
  simp only [hm, h0', iO_eT, Option.bind_some, List.length_map, put_dti]
  split
  · exact q _
  · exact Sm.nil
end
def mulU {α : Type} (xs : List α) (k : Int) : O (List α) := grd (1 ≤ k ∧ k ≤ 16000 ∧ 0 < xs.length ∧ xs.length ≤ 1000) (List.replicate k.toNat xs).flatten
end G
/-! T14: typed: one's own dicts, dicts known to their objects. -/
namespace G
open PySem PySem.Spec PyProof.Rows L2
variable {κ τ : Type} [DecidableEq κ]
def eDl (kt : κ → Key) (e : τ → D) (l : List (κ × τ)) : D := .dct (.bl true :: l.map fun p => kD (kt p.1)) (l.map fun p => e p.2)
section
variable {kt : κ → Key} {e : τ → D} {l : List (κ × τ)} {k : κ}
end
def hasT (l : List (κ × τ)) (k : κ) : Bool := (dlk l k).isSome
def ixO {τ : Type} : Option τ → O τ
  | some x => .ok x
  | none => .no
def ixT (l : List (κ × τ)) (k : κ) : O τ := ixO (dlk l k)
section
variable {e : τ → D}
section
variable {mo me mf : M D} {ρ : Env} {x : τ} {i : Nat}
end
/-! ### stores -/
def dputK (l : List (κ × τ)) (k : κ) (x : τ) : O (List (κ × τ)) := if l.length < sizeLine then .ok (dputT l k x) else .no
section
variable {β : Type} {E : Env → Prop} {P : β → SR → Prop} {ρ : Env}
end
section
variable {β : Type} {E : Env → Prop} {P : β → SR → Prop} {ρ : Env}
end
/-! ### update -/
def dupdT (l m : List (κ × τ)) : O (List (κ × τ)) := grd (l.length + m.length ≤ sizeLine) (m.foldl (fun a p => dputT a p.1 p.2) l)
section
variable {R β : Type} [Rz R] {E : Env → Prop} {P : β → R → Prop} {t : O β} {ρ : Env}
theorem Sm.mMlD {kt : κ → Key} {i : Nat} {h : D → List D → Option (D × D)} {ms : M (List D)} {k : D → Env → R} {l : List (κ × τ)} (h0 : ρ[i]? = some (some (eDk kt e l))) (q : Sm E P (sqR (ms ρ) fun ds ρ1 => sqR (G.mlK i h ds ρ1) k) t) : Sm E P (sqR (G.mMlD i h ms ρ) k) t := by
  have hd : isDkO (eDk kt e l) = true := by show (ksO (l.map fun p => kD (kt p.1))).isSome = true; rw [ksO_eDk]; rfl
  have : G.mMlD i h ms ρ = (ms.bind (G.mlK i h)) ρ := by
    have hv : mV i ρ = .ok (eDk kt e l) ρ := by unfold mV; rw [h0]
    simp only [G.mMlD, h0, hd, if_true, mMt, M.bind, hv]
    rfl
  rw [this, sqR_bind]
  exact q
/-! ### locked -/
theorem Sm.mLk {m : M D} {k : D → Env → R} (q : Sm E P (sqR (m ρ) fun d ρ1 => sqR (M.opt (lkDt d) ρ1) k) t) : Sm E P (sqR (G.mLk m ρ) k) t := by
  unfold G.mLk
  rw [sqR_bind]
  exact q
theorem Sm.mItL {m : M D} {k : List D → Env → R} (q : Sm E P (sqR (m ρ) fun d ρ1 => sqR (M.opt (dItL d) ρ1) k) t) : Sm E P (sqR (G.mItL m ρ) k) t := by
  unfold G.mItL
  rw [sqR_bind]
  exact q
end
/-! ### sorted -/
def srtD' (l : List (Int × τ)) : O (List Int) := grd (l.length < 64) (srtI (l.map (·.1)))
end
end G
/-! T15: typed: sorted(set(..)), a list of one's own times a number. -/
namespace G
open PySem PySem.Spec PyProof.Rows L2
def srtSetI (ns : List Int) : O (List Int) := grd (ns.length ≤ 1000 ∧ (ddI ns).length < 64) (srtI (ddI ns))
def listEn {α : Type} (xs : List α) : O (List (Int × α)) := grd (xs.length ≤ sizeLine) (enL xs)
end G
/-! T16: typed: one's own list gone through in a comprehension, a dict of one key, min of a dict. -/
namespace G
open PySem PySem.Spec PyProof.Rows L2
section
variable {R β τ : Type} [Rz R] {E : Env → Prop} {P : β → R → Prop} {t : O β} {ρ : Env}
theorem Sm.mOw {i : Nat} {e : τ → D} {xs : List τ} {k : List D → Env → R} (h : ρ[i]? = some (some (eL e xs))) (q : Sm E P (k (xs.map e) ρ) t) : Sm E P (sqR (G.mOw i id ρ) k) t := by
  have h' : G.mOw i id ρ = .ok (xs.map e) ρ := by
    unfold G.mOw
    rw [h]
    rfl
  rw [h']
  exact q
end
def minDT {τ : Type} (l : List (Int × τ)) : O Int := match l.map (·.1) with
  | n :: r => .ok (minL n r)
  | [] => .no
end G
/-! T17: typed: calls that hand out a new object, pairs. -/
namespace G
open PySem PySem.Spec PyProof.Rows L2
section
variable {R β : Type} [Rz R] {E : Env → Prop} {P : β → R → Prop} {t : O β} {ρ : Env}
theorem Sm.mNP {m : M D} {k : D → Env → R} (q : Sm E P (sqR (m ρ) fun d ρ1 => sqR ((if isPr d = true then M.opt none else M.ret d : M D) ρ1) k) t) : Sm E P (sqR (G.mNP m ρ) k) t := by
  unfold G.mNP
  rw [sqR_bind]
  exact q
theorem Sm.npk {d : D} {k : D → Env → R} (h : isPr d = false) (q : Sm E P (k d ρ) t) : Sm E P (sqR ((if isPr d = true then M.opt none else M.ret d : M D) ρ) k) t := by
  rw [h]
  exact q
theorem Sm.mPrL {i : Nat} {m2 : M D} {d1 : D} {k : D → Env → R} (h1 : ρ[i]? = some (some d1)) (q : Sm E P (sqR (m2 ρ) fun y ρ1 => sqR (mV i ρ1) fun x ρ2 => k (.tup [x, y]) ρ2) t) : Sm E P (sqR (G.mPrL i m2 ρ) k) t := by
  unfold G.mPrL
  rw [sqR_bind]
  have hv : mV i ρ = .ok d1 ρ := by unfold mV; rw [h1]
  rw [hv]
  show Sm E P (sqR (m2.bind _ ρ) k) t
  rw [sqR_bind]
  have e : (fun y ρ1 => sqR (((mV i).bind fun x => M.ret (.tup [x, y])) ρ1) k) = fun y ρ1 => sqR (mV i ρ1) fun x ρ2 => k (.tup [x, y]) ρ2 := by
    funext y ρ1
    rw [sqR_bind]
    rfl
  rw [e]
  exact q
end
end G
/-! T18: typed: a list of five taken apart. -/
namespace G
open PySem PySem.Spec PyProof.Rows L2
def un5 {τ : Type} : List τ → O (τ × τ × τ × τ × τ)
  | [a, b, c, d, e] => .ok (a, b, c, d, e)
  | _ => .no
theorem Sm.un5 {τ β : Type} {E : Env → Prop} {P : β → SR → Prop} {ρ : Env} {gs : MGs} {k : Env → SR} {l : List τ} {e : τ → D} {t2 : τ × τ × τ × τ × τ → O β} (q : ∀ p : τ × τ × τ × τ × τ, Sm E P (sqG (gs [e p.1, e p.2.1, e p.2.2.1, e p.2.2.2.1, e p.2.2.2.2] ρ) k) (t2 p)) : Sm E P (sqG (gTL 5 gs (eL e l) ρ) k) ((G.un5 l).bind t2) := by
  match l with
  | [a, b, c, d, f] => exact q (a, b, c, d, f)
  | [] => exact Sm.nil
  | [_] => exact Sm.nil
  | [_, _] => exact Sm.nil
  | [_, _, _] => exact Sm.nil
  | [_, _, _, _] => exact Sm.nil
  | _ :: _ :: _ :: _ :: _ :: _ :: _ => exact Sm.nil
end G
/-! T19: typed: split, int(text), x, *rest = a list. -/
namespace G
open PySem PySem.Spec PyProof.Rows L2
@[irreducible] def splO (a b : Str) : O (List Str) := grd ((b.length == 0) = false ∧ a.length + 2 ≤ sizeLine) (Txt.split a b)
theorem os_spl (a b : Str) : Os (dSpl (.str a) (.str b)) (eL D.str) (splO a b) := by
  unfold splO
  exact os_grd fun h => by simp only [dSpl]; rw [if_pos h]; rfl
@[irreducible] def intXO (a : Str) : O Int := ofO ((PySem.intText? a).bind fun n => if a.length ≤ 640 then some n else none)
theorem os_intX (a : Str) : Os (dIntX [.str a]) D.int (intXO a) := by
  unfold intXO
  have h0 : dIntX [.str a] = (PySem.intText? a).bind fun n => if a.length ≤ 640 then some (D.int n) else none := by rw [dIntX]
  rw [h0]
  cases PySem.intText? a with
  | none => exact trivial
  | some n =>
    show Os (if a.length ≤ 640 then some (D.int n) else none) D.int (ofO (if a.length ≤ 640 then some n else none))
    by_cases h : a.length ≤ 640
    · rw [if_pos h, if_pos h]; exact rfl
    · rw [if_neg h, if_neg h]; exact trivial
def starO {τ : Type} : List τ → O (τ × List τ)
  | x :: xs => .ok (x, xs)
  | [] => .no
def splK (b : M D) (x : D) : M D := if isStrD x = true then b.bind fun y => M.opt (dSpl x y) else M.opt none
section
variable {R β : Type} [Rz R] {E : Env → Prop} {P : β → R → Prop} {t : O β} {ρ : Env}
theorem Sm.mSpl {a b : M D} {k : D → Env → R} (q : Sm E P (sqR (a ρ) fun x ρ1 => sqR (G.splK b x ρ1) k) t) : Sm E P (sqR (G.mSpl a b ρ) k) t := by unfold G.mSpl; rw [sqR_bind]; exact q
theorem Sm.splK {x : Str} {b : M D} {k : D → Env → R} (q : Sm E P (sqR (b ρ) fun y ρ1 => sqR (M.opt (dSpl (.str x) y) ρ1) k) t) : Sm E P (sqR (G.splK b (.str x) ρ) k) t := by
  unfold G.splK
  rw [if_pos (show isStrD (.str x) = true from rfl), sqR_bind]
  exact q
end
theorem Sm.star {τ β : Type} {E : Env → Prop} {P : β → SR → Prop} {ρ : Env} {i j : Nat} {k : Env → SR} {l : List τ} {e : τ → D} {t2 : τ × List τ → O β} (q : ∀ p : τ × List τ, Sm E P (k ((ρ.set i (some (e p.1))).set j (some (eL e p.2)))) (t2 p)) : Sm E P (sqG (gStar i j (eL e l) ρ) k) ((G.starO l).bind t2) := by
  match l with
  | [] => exact Sm.nil
  | x :: xs => exact q (x, xs)
end G
/-! C0: what is reached by steps, pieces. -/
namespace G
open PySem PySem.Spec PyProof.Rows L2
inductive Rch {α : Type} (R : α → α → Prop) (x : α) : α → Prop
  | refl : Rch R x x
  | step {y z : α} : Rch R x y → R y z → Rch R x z
section
variable {α β : Type} {R S : α → α → Prop} {x y z : α}
theorem Rch.one (h : R x y) : Rch R x y := .step .refl h
theorem Rch.trans (h : Rch R x y) (k : Rch R y z) : Rch R x z := by
  induction k with
  | refl => exact h
  | step _ r ih => exact .step ih r
theorem Rch.head (h : R x y) (k : Rch R y z) : Rch R x z := (Rch.one h).trans k
theorem Rch.symm (hs : ∀ x y, R x y → R y x) (h : Rch R x y) : Rch R y x := by
  induction h with
  | refl => exact .refl
  | step _ r ih => exact .head (hs _ _ r) ih
theorem Rch.mono (h : ∀ y z, Rch R x y → R y z → S y z) (k : Rch R x y) : Rch S x y := by
  induction k with
  | refl => exact .refl
  | step k r ih => exact .step ih (h _ _ k r)
theorem Rch.map {S : β → β → Prop} {f : α → β} (h : ∀ y z, Rch R x y → R y z → S (f y) (f z)) (k : Rch R x y) : Rch S (f x) (f y) := by
  induction k with
  | refl => exact .refl
  | step k r ih => exact .step ih (h _ _ k r)
noncomputable def dec (p : Prop) : Bool := @decide p (Classical.propDecidable p)
/-- all that is reached, in the list's turn -/
noncomputable def cmp (ns : List α) (R : α → α → Prop) (x : α) : List α := ns.filter fun y => dec (Rch R x y)
variable {ns : List α}
/-- the pieces, by their first ones -/
noncomputable def pcs [DecidableEq α] (nd : List α) (R : α → α → Prop) : List (List α) := (nd.filter fun x => decide ((cmp nd R x).head? = some x)).map (cmp nd R)
end
end G
namespace Law
open PySem PySem.Spec PyProof.Rows L2 G
def top (i : Nat) : Stmt := PySem.Challenge.pw_gaugemoor_k08_whole_any_text_of_a_moor.main.body.getD i (.Pass ⟨0, 0, 0, 0⟩)
def d_f_law_draw : He.DefD := ⟨("_law_draw", none), "_law_draw", "_law_draw", defArgs (top 26), defBody (top 26), defScope (top 26), [], []⟩
def d_f_law_bent : He.DefD := ⟨("_law_bent", none), "_law_bent", "_law_bent", defArgs (top 29), defBody (top 29), defScope (top 29), [], []⟩
def d_f_law_gauge_line : He.DefD := ⟨("_law_gauge_line", none), "_law_gauge_line", "_law_gauge_line", defArgs (top 27), defBody (top 27), defScope (top 27), [], []⟩
def d_f_law_rod_line : He.DefD := ⟨("_law_rod_line", none), "_law_rod_line", "_law_rod_line", defArgs (top 28), defBody (top 28), defScope (top 28), [], []⟩
def d_f_law_lines : He.DefD := ⟨("_law_lines", none), "_law_lines", "_law_lines", defArgs (top 30), defBody (top 30), defScope (top 30), [], []⟩
def d_f_law_hand : He.DefD := ⟨("_law_hand", none), "_law_hand", "_law_hand", defArgs (top 25), defBody (top 25), defScope (top 25), [], []⟩
def d_f_law_cell : He.DefD := ⟨("_law_cell", none), "_law_cell", "_law_cell", defArgs (top 24), defBody (top 24), defScope (top 24), [], []⟩
def d_f_is_name : He.DefD := ⟨("is_name", none), "is_name", "is_name", defArgs (top 12), defBody (top 12), defScope (top 12), [], []⟩
def d_f_is_whole : He.DefD := ⟨("is_whole", none), "is_whole", "is_whole", defArgs (top 10), defBody (top 10), defScope (top 10), [], []⟩
def d_f_is_number : He.DefD := ⟨("is_number", none), "is_number", "is_number", defArgs (top 11), defBody (top 11), defScope (top 11), [], []⟩
def d_f_is_gauge : He.DefD := ⟨("is_gauge", none), "is_gauge", "is_gauge", defArgs (top 13), defBody (top 13), defScope (top 13), [], []⟩
def d_f_odd_gauge : He.DefD := ⟨("odd_gauge", none), "odd_gauge", "odd_gauge", defArgs (top 15), defBody (top 15), defScope (top 15), [], []⟩
def d_f_is_rod : He.DefD := ⟨("is_rod", none), "is_rod", "is_rod", defArgs (top 14), defBody (top 14), defScope (top 14), [], []⟩
def d_f_odd_rod : He.DefD := ⟨("odd_rod", none), "odd_rod", "odd_rod", defArgs (top 16), defBody (top 16), defScope (top 16), [], []⟩
def d_f_Moor_init : He.DefD := ⟨("Moor", some "__init__"), "__init__", "Moor.__init__", defArgs (inClass (top 17) 0), defBody (inClass (top 17) 0), defScope (inClass (top 17) 0), [.adr (He.dflAt ("Moor", some "__init__") 0)], [("rods", .adr (kwAt ("Moor", some "__init__") "rods"))]⟩
def d_f_moor_of : He.DefD := ⟨("moor_of", none), "moor_of", "moor_of", defArgs (top 21), defBody (top 21), defScope (top 21), [], []⟩
def d_f_figured : He.DefD := ⟨("figured", none), "figured", "figured", defArgs (top 20), defBody (top 20), defScope (top 20), [], []⟩
def d_f_read_moor : He.DefD := ⟨("read_moor", none), "read_moor", "read_moor", defArgs (top 22), defBody (top 22), defScope (top 22), [], []⟩
def d_f_Moor_str : He.DefD := ⟨("Moor", some "__str__"), "__str__", "Moor.__str__", defArgs (inClass (top 17) 3), defBody (inClass (top 17) 3), defScope (inClass (top 17) 3), [], []⟩
def d_f_law_found : He.DefD := ⟨("_law_found", none), "_law_found", "_law_found", defArgs (top 35), defBody (top 35), defScope (top 35), [], []⟩
def d_f_law_is_call : He.DefD := ⟨("_law_is_call", none), "_law_is_call", "_law_is_call", defArgs (top 31), defBody (top 31), defScope (top 31), [], []⟩
def d_f_law_is_high : He.DefD := ⟨("_law_is_high", none), "_law_is_high", "_law_is_high", defArgs (top 32), defBody (top 32), defScope (top 32), [], []⟩
def d_f_law_adds : He.DefD := ⟨("_law_adds", none), "_law_adds", "_law_adds", defArgs (top 33), defBody (top 33), defScope (top 33), [], []⟩
def d_f_law_due : He.DefD := ⟨("_law_due", none), "_law_due", "_law_due", defArgs (top 34), defBody (top 34), defScope (top 34), [], []⟩
def d_f_law : He.DefD := ⟨("law", none), "law", "law", defArgs (top 36), defBody (top 36), defScope (top 36), [], []⟩
def d_exi_NoGauges : He.DefD := ⟨("NoGauges", some "__init__"), "__init__", "NoGauges.__init__", defArgs (inClass (top 3) 0), defBody (inClass (top 3) 0), defScope (inClass (top 3) 0), [], []⟩
def d_exi_NoRods : He.DefD := ⟨("NoRods", some "__init__"), "__init__", "NoRods.__init__", defArgs (inClass (top 4) 0), defBody (inClass (top 4) 0), defScope (inClass (top 4) 0), [], []⟩
def d_exi_NoText : He.DefD := ⟨("NoText", some "__init__"), "__init__", "NoText.__init__", defArgs (inClass (top 6) 0), defBody (inClass (top 6) 0), defScope (inClass (top 6) 0), [], []⟩
def fn : List He.DefD := [d_f_law_draw, d_f_law_bent, d_f_law_gauge_line, d_f_law_rod_line, d_f_law_lines, d_f_law_hand, d_f_law_cell, d_f_is_name, d_f_is_whole, d_f_is_number, d_f_is_gauge, d_f_odd_gauge, d_f_is_rod, d_f_odd_rod, d_f_Moor_init, d_f_moor_of, d_f_figured, d_f_read_moor, d_f_Moor_str, d_f_law_found, d_f_law_is_call, d_f_law_is_high, d_f_law_adds, d_f_law_due, d_f_law, d_exi_NoGauges, d_exi_NoRods, d_exi_NoText]
def fa : List He.Fa := [.free "divmod", .glo "_law_draw", .free "len", .glo "_law_bent", .free "min", .free "max", .free "str", .free "int", .glo "_law_gauge_line", .glo "_law_rod_line", .free "range", .glo "_law_lines", .free "abs", .glo "_law_hand", .glo "_law_cell", .free "isinstance", .free "all", .glo "is_name", .free "bool", .glo "is_whole", .glo "is_number", .int "GREAT" (1000000000), .free "tuple", .glo "is_gauge", .free "enumerate", .glo "odd_gauge", .glo "is_rod", .glo "odd_rod", .int "MOST_GAUGES" (12), .glo "NoGauges", .glo "NoRods", .cls "Moor", .noat "Moor" "gauges", .noat "Moor" "rods", .mkr "Moor", .glo "Moor", .glo "moor_of", .str "FIGURES" "0123456789", .glo "figured", .glo "NoText", .glo "read_moor", .meth "Moor" "__str__", .glo "_law_found", .glo "_law_is_call", .glo "_law_is_high", .glo "_law_adds", .glo "_law_due", .free "repr", .glo "law", .glo "MoorError", .exm "Moor" "NoGauges" false, .exm "NoGauges" "NoGauges" true, .exm "NoRods" "NoGauges" false, .exm "NoText" "NoGauges" false, .exm "Moor" "NoRods" false, .exm "NoGauges" "NoRods" false, .exm "NoRods" "NoRods" true, .exm "NoText" "NoRods" false, .exm "Moor" "NoText" false, .exm "NoGauges" "NoText" false, .exm "NoRods" "NoText" false, .exm "NoText" "NoText" true]
def exB (K : Frag) : Bool := (clsFB K (He.ga K "Moor") && (notBB K (He.ga K "Moor") && (tup0B K (He.dflAt ("Moor", some "__init__") 0 K) && (tup0B K (kwAt ("Moor", some "__init__") "rods" K) && (oexB K [.type "ValueError", .type "Exception", .type "BaseException", .type "object"] "ValueError.__new__" (He.ga K "NoGauges") && (oexB K [.type "ValueError", .type "Exception", .type "BaseException", .type "object"] "ValueError.__new__" (He.ga K "NoRods") && (oexB K [.type "ValueError", .type "Exception", .type "BaseException", .type "object"] "ValueError.__new__" (He.ga K "NoText") && (exfB K (He.ga K "NoGauges") (He.fAd K ("NoGauges", some "__init__")) "place" && (exfB K (He.ga K "NoRods") (He.fAd K ("NoRods", some "__init__")) "place" && (exfB K (He.ga K "NoText") (He.fAd K ("NoText", some "__init__")) "row" && (baseIB K (He.ga K "MoorError") "ValueError.__init__" && (excCB K (He.ga K "NoGauges") && (excCB K (He.ga K "NoRods") && (excCB K (He.ga K "NoText") && true))))))))))))))
abbrev Hy (K : Frag) (mg : PySem.Str → Option Value) (h : Heap) : Prop := HyG fa fn exB K mg h
section
variable {K : Frag} {mg : PySem.Str → Option Value} {h : Heap}
theorem clsF_Moor (y : Hy K mg h) : ClsF K (He.ga K "Moor") := clsF_of (y.cls_ 31) (Bool.and_eq_true_iff.mp y.ex).1
theorem notB_Moor (y : Hy K mg h) : NotB K (He.ga K "Moor") := notB_of (Bool.and_eq_true_iff.mp (Bool.and_eq_true_iff.mp y.ex).2).1
theorem tup_0 (y : Hy K mg h) : tup0B K (He.dflAt ("Moor", some "__init__") 0 K) = true := (Bool.and_eq_true_iff.mp (Bool.and_eq_true_iff.mp (Bool.and_eq_true_iff.mp y.ex).2).2).1
theorem tup_1 (y : Hy K mg h) : tup0B K (kwAt ("Moor", some "__init__") "rods" K) = true := (Bool.and_eq_true_iff.mp (Bool.and_eq_true_iff.mp (Bool.and_eq_true_iff.mp (Bool.and_eq_true_iff.mp y.ex).2).2).2).1
abbrev ct (K : Frag) : Ct := fun i => match i with
  | 0 => (He.ga K "Moor", ["gauges", "rods"])
  | 1 => (He.ga K "NoGauges", ["place"])
  | 2 => (He.ga K "NoRods", ["place"])
  | _ => (He.ga K "NoText", ["row"])
theorem ndc_0 : (["gauges", "rods"] : List PySem.Str).Nodup := by decide
theorem lnc_0 : (["gauges", "rods"] : List PySem.Str).length < 1000 := by decide
def caught_NoGauges (i : Nat) : Bool := match i with
  | 0 => false
  | 1 => true
  | 2 => false
  | _ => false
theorem ex_NoGauges (y : Hy K mg h) : ∀ i : Nat, PySem.W.exmOne K (.ref (ct K i).1) (.ref (He.ga K "NoGauges")) = some (caught_NoGauges i)
  | 0 => y.exm 50
  | 1 => y.exm 51
  | 2 => y.exm 52
  | n + 3 => y.exm 53
def caught_NoRods (i : Nat) : Bool := match i with
  | 0 => false
  | 1 => false
  | 2 => true
  | _ => false
theorem ex_NoRods (y : Hy K mg h) : ∀ i : Nat, PySem.W.exmOne K (.ref (ct K i).1) (.ref (He.ga K "NoRods")) = some (caught_NoRods i)
  | 0 => y.exm 54
  | 1 => y.exm 55
  | 2 => y.exm 56
  | n + 3 => y.exm 57
def caught_NoText (i : Nat) : Bool := match i with
  | 0 => false
  | 1 => false
  | 2 => false
  | _ => true
theorem ex_NoText (y : Hy K mg h) : ∀ i : Nat, PySem.W.exmOne K (.ref (ct K i).1) (.ref (He.ga K "NoText")) = some (caught_NoText i)
  | 0 => y.exm 58
  | 1 => y.exm 59
  | 2 => y.exm 60
  | n + 3 => y.exm 61
def caught_NoGauges_NoRods (i : Nat) : Bool := caught_NoGauges i || (caught_NoRods i)
theorem exT_NoGauges_NoRods (y : Hy K mg h) : ∀ c : Nat, (fun cl => PySem.W.exmAny K cl [.ref (He.ga K "NoGauges"), .ref (He.ga K "NoRods")]) (.ref (ct K c).1) = some (caught_NoGauges_NoRods c) := fun c => exa2 (ex_NoGauges y c) (ex_NoRods y c)
theorem exT_NoText (y : Hy K mg h) : ∀ c : Nat, (fun cl => PySem.W.exmOne K cl (.ref (He.ga K "NoText"))) (.ref (ct K c).1) = some (caught_NoText c) := fun c => ex_NoText y c
theorem s_exi_NoGauges : FnScope (["self", "place"] : List PySem.Str) (["self", "place"] : List PySem.Str) (d_exi_NoGauges).scope := ⟨rfl, rfl, rfl, by decide +kernel, rfl, by decide +kernel, by decide +kernel⟩
theorem exf_NoGauges {P : Program} {w : World} (y : Hy K mg h) : ExFK P w K mg (He.ga K "NoGauges") "place" := by
  obtain ⟨fd, D⟩ := y.says.def_ 25
  have ef := exf_1 (Bool.and_eq_true_iff.mp (Bool.and_eq_true_iff.mp (Bool.and_eq_true_iff.mp (Bool.and_eq_true_iff.mp (Bool.and_eq_true_iff.mp (Bool.and_eq_true_iff.mp (Bool.and_eq_true_iff.mp (Bool.and_eq_true_iff.mp y.ex).2).2).2).2).2).2).2).1
  refine ⟨_, _, _, _, He.fAd K ("NoGauges", some "__init__"), fd, "place", eb_ve, oexT_of (Bool.and_eq_true_iff.mp (Bool.and_eq_true_iff.mp (Bool.and_eq_true_iff.mp (Bool.and_eq_true_iff.mp (Bool.and_eq_true_iff.mp y.ex).2).2).2).2).1, ef.2.1, ef.2.2, fun base => fn_init (txt := "no gauges of a moor") (f := "place") (par := "place") D s_exi_NoGauges (oexT_of (Bool.and_eq_true_iff.mp (Bool.and_eq_true_iff.mp (Bool.and_eq_true_iff.mp (Bool.and_eq_true_iff.mp (Bool.and_eq_true_iff.mp y.ex).2).2).2).2).1) ef.1 fun X cdv A outer s H E hX => ?_, D.bindsN fun _ _ _ _ _ _ us hl => match us, hl with | [_, _], _ => rfl⟩
  subst hX
  have nd : (["self", "place"] : List PySem.Str).Nodup := by decide +kernel
  exact pss_cons (ps_expr (pe_cinit eb_ve (baseI_of (Bool.and_eq_true_iff.mp (Bool.and_eq_true_iff.mp (Bool.and_eq_true_iff.mp (Bool.and_eq_true_iff.mp (Bool.and_eq_true_iff.mp (Bool.and_eq_true_iff.mp (Bool.and_eq_true_iff.mp (Bool.and_eq_true_iff.mp (Bool.and_eq_true_iff.mp (Bool.and_eq_true_iff.mp (Bool.and_eq_true_iff.mp y.ex).2).2).2).2).2).2).2).2).2).2).1) (y.glo 49) rfl rfl (by decide) (pa_cons (pv 0) (pa_cons pe_str pa_nil)))) (pss_one (ps_osT eb_ve (pv 0) (pv 1)))
theorem s_exi_NoRods : FnScope (["self", "place"] : List PySem.Str) (["self", "place"] : List PySem.Str) (d_exi_NoRods).scope := ⟨rfl, rfl, rfl, by decide +kernel, rfl, by decide +kernel, by decide +kernel⟩
theorem exf_NoRods {P : Program} {w : World} (y : Hy K mg h) : ExFK P w K mg (He.ga K "NoRods") "place" := by
  obtain ⟨fd, D⟩ := y.says.def_ 26
  have ef := exf_1 (Bool.and_eq_true_iff.mp (Bool.and_eq_true_iff.mp (Bool.and_eq_true_iff.mp (Bool.and_eq_true_iff.mp (Bool.and_eq_true_iff.mp (Bool.and_eq_true_iff.mp (Bool.and_eq_true_iff.mp (Bool.and_eq_true_iff.mp (Bool.and_eq_true_iff.mp y.ex).2).2).2).2).2).2).2).2).1
  refine ⟨_, _, _, _, He.fAd K ("NoRods", some "__init__"), fd, "place", eb_ve, oexT_of (Bool.and_eq_true_iff.mp (Bool.and_eq_true_iff.mp (Bool.and_eq_true_iff.mp (Bool.and_eq_true_iff.mp (Bool.and_eq_true_iff.mp (Bool.and_eq_true_iff.mp y.ex).2).2).2).2).2).1, ef.2.1, ef.2.2, fun base => fn_init (txt := "no rods of a moor") (f := "place") (par := "place") D s_exi_NoRods (oexT_of (Bool.and_eq_true_iff.mp (Bool.and_eq_true_iff.mp (Bool.and_eq_true_iff.mp (Bool.and_eq_true_iff.mp (Bool.and_eq_true_iff.mp (Bool.and_eq_true_iff.mp y.ex).2).2).2).2).2).1) ef.1 fun X cdv A outer s H E hX => ?_, D.bindsN fun _ _ _ _ _ _ us hl => match us, hl with | [_, _], _ => rfl⟩
  subst hX
  have nd : (["self", "place"] : List PySem.Str).Nodup := by decide +kernel
  exact pss_cons (ps_expr (pe_cinit eb_ve (baseI_of (Bool.and_eq_true_iff.mp (Bool.and_eq_true_iff.mp (Bool.and_eq_true_iff.mp (Bool.and_eq_true_iff.mp (Bool.and_eq_true_iff.mp (Bool.and_eq_true_iff.mp (Bool.and_eq_true_iff.mp (Bool.and_eq_true_iff.mp (Bool.and_eq_true_iff.mp (Bool.and_eq_true_iff.mp (Bool.and_eq_true_iff.mp y.ex).2).2).2).2).2).2).2).2).2).2).1) (y.glo 49) rfl rfl (by decide) (pa_cons (pv 0) (pa_cons pe_str pa_nil)))) (pss_one (ps_osT eb_ve (pv 0) (pv 1)))
theorem s_exi_NoText : FnScope (["self", "row"] : List PySem.Str) (["self", "row"] : List PySem.Str) (d_exi_NoText).scope := ⟨rfl, rfl, rfl, by decide +kernel, rfl, by decide +kernel, by decide +kernel⟩
theorem exf_NoText {P : Program} {w : World} (y : Hy K mg h) : ExFK P w K mg (He.ga K "NoText") "row" := by
  obtain ⟨fd, D⟩ := y.says.def_ 27
  have ef := exf_1 (Bool.and_eq_true_iff.mp (Bool.and_eq_true_iff.mp (Bool.and_eq_true_iff.mp (Bool.and_eq_true_iff.mp (Bool.and_eq_true_iff.mp (Bool.and_eq_true_iff.mp (Bool.and_eq_true_iff.mp (Bool.and_eq_true_iff.mp (Bool.and_eq_true_iff.mp (Bool.and_eq_true_iff.mp y.ex).2).2).2).2).2).2).2).2).2).1
  refine ⟨_, _, _, _, He.fAd K ("NoText", some "__init__"), fd, "row", eb_ve, oexT_of (Bool.and_eq_true_iff.mp (Bool.and_eq_true_iff.mp (Bool.and_eq_true_iff.mp (Bool.and_eq_true_iff.mp (Bool.and_eq_true_iff.mp (Bool.and_eq_true_iff.mp (Bool.and_eq_true_iff.mp y.ex).2).2).2).2).2).2).1, ef.2.1, ef.2.2, fun base => fn_init (txt := "a text that is not so written") (f := "row") (par := "row") D s_exi_NoText (oexT_of (Bool.and_eq_true_iff.mp (Bool.and_eq_true_iff.mp (Bool.and_eq_true_iff.mp (Bool.and_eq_true_iff.mp (Bool.and_eq_true_iff.mp (Bool.and_eq_true_iff.mp (Bool.and_eq_true_iff.mp y.ex).2).2).2).2).2).2).1) ef.1 fun X cdv A outer s H E hX => ?_, D.bindsN fun _ _ _ _ _ _ us hl => match us, hl with | [_, _], _ => rfl⟩
  subst hX
  have nd : (["self", "row"] : List PySem.Str).Nodup := by decide +kernel
  exact pss_cons (ps_expr (pe_cinit eb_ve (baseI_of (Bool.and_eq_true_iff.mp (Bool.and_eq_true_iff.mp (Bool.and_eq_true_iff.mp (Bool.and_eq_true_iff.mp (Bool.and_eq_true_iff.mp (Bool.and_eq_true_iff.mp (Bool.and_eq_true_iff.mp (Bool.and_eq_true_iff.mp (Bool.and_eq_true_iff.mp (Bool.and_eq_true_iff.mp (Bool.and_eq_true_iff.mp y.ex).2).2).2).2).2).2).2).2).2).2).1) (y.glo 49) rfl rfl (by decide) (pa_cons (pv 0) (pa_cons pe_str pa_nil)))) (pss_one (ps_osT eb_ve (pv 0) (pv 1)))
def xg_row (i : Nat) : Bool := match i with
  | 3 => true
  | _ => false
theorem xg_row_ok (y : Hy K mg h) : ∀ c, xg_row c = true → XfC K (ct K c).1 ∧ PySem.W.findIn K (.ref (ct K c).1) "row" = some none ∧ (ct K c).2 = [("row" : PySem.Str)] := fun c e => by
  match c, e with
  | 0, e => cases e
  | 1, e => cases e
  | 2, e => cases e
  | 3, e => exact ⟨xfC_of (Bool.and_eq_true_iff.mp (Bool.and_eq_true_iff.mp (Bool.and_eq_true_iff.mp (Bool.and_eq_true_iff.mp (Bool.and_eq_true_iff.mp (Bool.and_eq_true_iff.mp (Bool.and_eq_true_iff.mp (Bool.and_eq_true_iff.mp (Bool.and_eq_true_iff.mp (Bool.and_eq_true_iff.mp (Bool.and_eq_true_iff.mp (Bool.and_eq_true_iff.mp (Bool.and_eq_true_iff.mp (Bool.and_eq_true_iff.mp y.ex).2).2).2).2).2).2).2).2).2).2).2).2).2).1, (exf_1 (Bool.and_eq_true_iff.mp (Bool.and_eq_true_iff.mp (Bool.and_eq_true_iff.mp (Bool.and_eq_true_iff.mp (Bool.and_eq_true_iff.mp (Bool.and_eq_true_iff.mp (Bool.and_eq_true_iff.mp (Bool.and_eq_true_iff.mp (Bool.and_eq_true_iff.mp (Bool.and_eq_true_iff.mp y.ex).2).2).2).2).2).2).2).2).2).1).1, rfl⟩
  | n + 4, e => cases e
abbrev gD_f_Moor_init_b1_rods : List D → List D → List D := fun ds es => pickL [0, 2] (ds ++ [.tup []] ++ es)
theorem bn_f_Moor_init_b1_rods (y : Hy K mg h) {fd : FuncData} (D : FunD K (d_f_Moor_init).name (d_f_Moor_init).qual (d_f_Moor_init).params (d_f_Moor_init).body (d_f_Moor_init).scope ((d_f_Moor_init).dvs K) ((d_f_Moor_init).kws K) (He.fAd K ("Moor", some "__init__")) fd) : BnM K (ct K) fd (["self", "gauges", "rods"] : List PySem.Str) 1 ["rods"] gD_f_Moor_init_b1_rods := bnM_k D 1 ["rods"] [] [0, 2] [.tup []] (List.cons_ne_nil _ _) (List.cons_ne_nil _ _) (fun _ hq => absurd hq List.not_mem_nil) (fun F => rpl_cons.mpr ⟨_, _, rfl, tup0_of (tup_0 y) F, rpl_nil.mpr rfl⟩) fun _ _ _ _ _ _ _ us its mv ws h1 h2 h3 h4 => match us, its, mv, ws, h1, h2, h3, h4 with | [_, _], [_], [], [_], _, _, _, _ => ⟨_, rfl, rfl⟩
abbrev gD_f_Moor_init_b0 : List D → List D → List D := fun ds es => pickL [0, 1] (ds ++ [.tup [], .tup []] ++ es)
theorem bn_f_Moor_init_b0 (y : Hy K mg h) {fd : FuncData} (D : FunD K (d_f_Moor_init).name (d_f_Moor_init).qual (d_f_Moor_init).params (d_f_Moor_init).body (d_f_Moor_init).scope ((d_f_Moor_init).dvs K) ((d_f_Moor_init).kws K) (He.fAd K ("Moor", some "__init__")) fd) : BnM K (ct K) fd (["self", "gauges", "rods"] : List PySem.Str) 0 [] gD_f_Moor_init_b0 := bnM_k D 0 [] [("rods", .ref (kwAt ("Moor", some "__init__") "rods" K))] [0, 1] [.tup [], .tup []] (List.cons_ne_nil _ _) (List.cons_ne_nil _ _) (fun _ hq => hq) (fun F => rpl_cons.mpr ⟨_, _, rfl, tup0_of (tup_0 y) F, rpl_cons.mpr ⟨_, _, rfl, tup0_of (tup_1 y) F, rpl_nil.mpr rfl⟩⟩) fun _ _ _ _ _ _ _ us its mv ws h1 h2 h3 h4 => match us, its, mv, ws, h1, h2, h3, h4 with | [_], [_], [_], [], _, _, _, _ => ⟨_, rfl, _, _, _, _, _, _, rfl, rfl, rfl⟩
end
end Law
namespace Law
open PySem PySem.Spec PyProof.Rows L2 G
/-! ### _law_draw -/
noncomputable def m_f_law_draw : MS := (mAsg (gSb 0 (mC (.int 2))) (m2 dAdd (m2L dIx 0 (mC (.int 2))) (mC (.int 1)))).sq ((mIfS (mB (m2 dGt (m2L dIx 0 (mC (.int 0))) (mC (.int 0)))) ((mAsg (gT 2 (gC (gSb 0 (mC (.int 0))) (gC (gN 2) (gE)))) (mA dDm (mCons (m2L dIx 0 (mC (.int 0))) (mCons (mV 1) mNil)))).sq (mRet (mV 2))) (mNx)).sq ((mSet 3 (m2 dMd (m2L dIx 0 (mC (.int 1))) (mC (.int 1000000207)))).sq ((mAsg (gSb 0 (mC (.int 1))) (m2 dAdd (m2 dMul (mV 3) (m2 dAdd (m2 dMd (mV 3) (mC (.int 44017))) (mC (.int 28001)))) (m2 dMul (mC (.int 70003)) (m2L dIx 0 (mC (.int 2)))))).sq (mRet (m2 dMd (m2 dFd (m2 dMd (m2L dIx 0 (mC (.int 1))) (mC (.int 1000000207))) (mC (.int 32))) (mV 1))))))
noncomputable def MF_f_law_draw : MFn := mFn 4 [.io, .fz] false m_f_law_draw
theorem s_f_law_draw : FnScope (["_law_hand_here", "_law_upto", "_law_digit", "_law_state"] : List PySem.Str) (["_law_hand_here", "_law_upto"] : List PySem.Str) (d_f_law_draw).scope := ⟨rfl, rfl, rfl, by decide +kernel, rfl, by decide +kernel, by decide +kernel⟩
theorem w_f_law_draw {P : Program} {w : World} {K : Frag} {mg : PySem.Str → Option Value} {h : Heap} (y : Hy K mg h) : ∃ fd, FunD K (d_f_law_draw).name (d_f_law_draw).qual (d_f_law_draw).params (d_f_law_draw).body (d_f_law_draw).scope ((d_f_law_draw).dvs K) ((d_f_law_draw).kws K) (He.fAd K ("_law_draw", none)) fd ∧ BnF K fd (["_law_hand_here", "_law_upto"] : List PySem.Str) ∧ PySem.W.keepIn K (.ref (He.fAd K ("_law_draw", none))) = true ∧ mg "_law_draw" = some (.ref (He.fAd K ("_law_draw", none))) ∧ ∀ base : Heap, FnG P w K mg base (CXn false P w) 1 (He.fAd K ("_law_draw", none)) fd (["_law_hand_here", "_law_upto"] : List PySem.Str) (SpG K (ct K) [.io, .fz] false MF_f_law_draw) := by
  obtain ⟨fd, D⟩ := y.says.def_ 0
  refine ⟨fd, D, (bnF (D.bindsN fun _ _ _ _ _ _ us hl => match us, hl with | [_, _], _ => rfl)), D.kp, y.glo 1, fun base => fn_g (N := (["_law_hand_here", "_law_upto", "_law_digit", "_law_state"] : List PySem.Str)) (ps := (["_law_hand_here", "_law_upto"] : List PySem.Str)) (ks := [.io, .fz]) (Γl := [.fz, .fz]) (Γ' := [.io, .fz, .fz, .fz]) (ro := false) (b := m_f_law_draw) D s_f_law_draw fun X S cdv A outer s H E hX hK hc hge hro tk gd room po => ?_⟩
  obtain ⟨⟨SK, Sct, F0, H0, ios⟩, Sge, SW, gc, gb, Sro⟩ := S
  have hK1 : SK = K := hK; have hc1 : Sct = ct K := hc; clear hK hc; subst hc1; subst hK1; cases hge; cases hro; subst hX
  have hu := room.units
  have nd : (["_law_hand_here", "_law_upto", "_law_digit", "_law_state"] : List PySem.Str).Nodup := by decide +kernel
  exact ss_cons (Γ1 := [.io, .fz, .fz, .fz]) (s_asgW (e_add (e_ixL (pv 0) (e_int)) (e_r (e_int))) (gw_sub (pv 0) (e_int) rfl (by decide))) (ss_cons (Γ1 := [.io, .fz, .fz, .fz]) (s_if (t_cmp (c_gt hu rfl) (e_ixL (pv 0) (e_int)) (e_r (e_int))) (ss_cons (Γ1 := [.io, .fz, .fz, .fz]) (s_asgW (e_cb (b_divmod) (a_consR (e_ixL (pv 0) (e_int)) (a_oneR (e_r (e_v (pv 1))))) (y.free 0)) (gw_tup rfl (gw_cons (gw_sub (pv 0) (e_int) rfl (by decide)) (gw_cons (gw_of (g_name (i := 2) nd rfl (by first | exact Or.inl rfl | exact Or.inr rfl) (by first | exact Or.inr rfl | exact Or.inl rfl) ⟨_, rfl, by decide⟩)) (gw_nil))) rfl)) (ss_one (s_ret (e_v (pv 2))))) (ss_nil)) (ss_cons (Γ1 := [.io, .fz, .fz, .fz]) (s_set (i := 3) (e_md (e_ixL (pv 0) (e_int)) (e_r (e_int))) nd rfl (by first | exact Or.inl rfl | exact Or.inr rfl) (by first | exact Or.inr rfl | exact Or.inl rfl) ⟨_, rfl, by decide⟩) (ss_cons (Γ1 := [.io, .fz, .fz, .fz]) (s_asgW (e_add (e_mul (e_v (pv 3)) (e_r (e_add (e_md (e_v (pv 3)) (e_r (e_int))) (e_r (e_int))))) (e_r (e_mul (e_int) (e_r (e_ixL (pv 0) (e_int)))))) (gw_sub (pv 0) (e_int) rfl (by decide))) (ss_one (s_ret (e_md (e_fd (e_md (e_ixL (pv 0) (e_int)) (e_r (e_int))) (e_r (e_int))) (e_r (e_v (pv 1)))))))))
end Law
namespace Law
open PySem PySem.Spec PyProof.Rows L2 G
/-! ### _law_bent -/
noncomputable def m_f_law_bent : MS := (mSet 2 (mLst (mCons (mC (.str "")) (mCons (mC (.str " ")) (mCons (mC (.str "0")) (mCons (mC (.str "1")) (mCons (mC (.str "a")) (mCons (mC (.str "A")) (mCons (mC (.str "-")) (mCons (mC (.str "\n")) (mCons (mC (.str "rod")) (mCons (mC (.str "  ")) (mCons (mC (.str "2")) (mCons (mC (.str ".")) (mCons (mC (.str " 1")) (mCons (mC (.str "\nrod a b")) (mCons (mC (.str "+")) (mCons (mC (.str "\ngauge zz 3")) (mNil))))))))))))))))))).sq ((mPar [3, 4] (mCons (mCallH [.sl 0, .fz] MF_f_law_draw ((mV 0).bind fun _ => mCons (m2 dAdd (mA dLen (mCons (mV 1) mNil)) (mC (.int 1))) (mNil))) (mCons (m2 dIx (mV 2) (mCallH [.sl 0, .fz] MF_f_law_draw ((mV 0).bind fun _ => mCons (mC (.int 16)) (mNil)))) (mNil)))).sq (mRet (m2 dAdd (m2 dAdd (mSl (mV 1) (M.ret none) (mPt (mV 3))) (mV 4)) (mSl (mV 1) (mPt (m2 dAdd (mV 3) (mCallH [.sl 0, .fz] MF_f_law_draw ((mV 0).bind fun _ => mCons (mC (.int 3)) (mNil))))) (M.ret none)))))
noncomputable def MF_f_law_bent : MFn := mFn 5 [.io, .fz] false m_f_law_bent
theorem s_f_law_bent : FnScope (["_law_hand_here", "_law_lines_here", "_law_odd", "_law_at", "_law_sign"] : List PySem.Str) (["_law_hand_here", "_law_lines_here"] : List PySem.Str) (d_f_law_bent).scope := ⟨rfl, rfl, rfl, by decide +kernel, rfl, by decide +kernel, by decide +kernel⟩
theorem w_f_law_bent {P : Program} {w : World} {K : Frag} {mg : PySem.Str → Option Value} {h : Heap} (y : Hy K mg h) : ∃ fd, FunD K (d_f_law_bent).name (d_f_law_bent).qual (d_f_law_bent).params (d_f_law_bent).body (d_f_law_bent).scope ((d_f_law_bent).dvs K) ((d_f_law_bent).kws K) (He.fAd K ("_law_bent", none)) fd ∧ BnF K fd (["_law_hand_here", "_law_lines_here"] : List PySem.Str) ∧ PySem.W.keepIn K (.ref (He.fAd K ("_law_bent", none))) = true ∧ mg "_law_bent" = some (.ref (He.fAd K ("_law_bent", none))) ∧ ∀ base : Heap, FnG P w K mg base (CXn false P w) 2 (He.fAd K ("_law_bent", none)) fd (["_law_hand_here", "_law_lines_here"] : List PySem.Str) (SpG K (ct K) [.io, .fz] false MF_f_law_bent) := by
  obtain ⟨fd_f_law_draw, f_law_draw_d, f_law_draw_b, f_law_draw_k, f_law_draw_m, f_law_draw_r⟩ := w_f_law_draw (P := P) (w := w) y
  obtain ⟨fd, D⟩ := y.says.def_ 1
  refine ⟨fd, D, (bnF (D.bindsN fun _ _ _ _ _ _ us hl => match us, hl with | [_, _], _ => rfl)), D.kp, y.glo 3, fun base => fn_g (N := (["_law_hand_here", "_law_lines_here", "_law_odd", "_law_at", "_law_sign"] : List PySem.Str)) (ps := (["_law_hand_here", "_law_lines_here"] : List PySem.Str)) (ks := [.io, .fz]) (Γl := [.fz, .fz, .fz]) (Γ' := [.io, .fz, .fz, .fz, .fz]) (ro := false) (b := m_f_law_bent) D s_f_law_bent fun X S cdv A outer s H E hX hK hc hge hro tk gd room po => ?_⟩
  obtain ⟨⟨SK, Sct, F0, H0, ios⟩, Sge, SW, gc, gb, Sro⟩ := S
  have hK1 : SK = K := hK; have hc1 : Sct = ct K := hc; clear hK hc; subst hc1; subst hK1; cases hge; cases hro; subst hX
  have hu := room.units
  have nd : (["_law_hand_here", "_law_lines_here", "_law_odd", "_law_at", "_law_sign"] : List PySem.Str).Nodup := by decide +kernel
  exact ss_cons (Γ1 := [.io, .fz, .fz, .fz, .fz]) (s_set (i := 2) (e_lst (a_cons (e_str) (a_cons (e_str) (a_cons (e_str) (a_cons (e_str) (a_cons (e_str) (a_cons (e_str) (a_cons (e_str) (a_cons (e_str) (a_cons (e_str) (a_cons (e_str) (a_cons (e_str) (a_cons (e_str) (a_cons (e_str) (a_cons (e_str) (a_cons (e_str) (a_cons (e_str) (a_nil)))))))))))))))))) nd rfl (by first | exact Or.inl rfl | exact Or.inr rfl) (by first | exact Or.inr rfl | exact Or.inl rfl) ⟨_, rfl, by decide⟩) (ss_cons (Γ1 := [.io, .fz, .fz, .fz, .fz]) (s_par2 (i := 3) (j := 4) (ba := false) (bb := false) rfl nd (v_fz (e_h (sh := [.sl 0, .fz]) (ks := [.io, .fz]) (MF := MF_f_law_draw) ⟨(f_law_draw_r base).mono (k := 1) (by decide), gd, room⟩ f_law_draw_m f_law_draw_k f_law_draw_b tk (.inl rfl) (h_sl (pv 0) (h_fz (e_add (e_cb (b_len rfl) (a_oneR (e_r (e_v (pv 1)))) (y.free 2)) (e_r (e_int))) (h_nil)))) (v_fz (e_ix (e_v (pv 2)) (e_h (sh := [.sl 0, .fz]) (ks := [.io, .fz]) (MF := MF_f_law_draw) ⟨(f_law_draw_r base).mono (k := 1) (by decide), gd, room⟩ f_law_draw_m f_law_draw_k f_law_draw_b tk (.inl rfl) (h_sl (pv 0) (h_fz (e_int) (h_nil))))) (v_nil))) rfl rfl (by decide) rfl rfl) (ss_one (s_ret (e_add (e_add (e_sl (e_v (pv 1)) (p_none) (p_some (e_v (pv 3)))) (e_r (e_v (pv 4)))) (e_r (e_sl (e_v (pv 1)) (p_some (e_add (e_v (pv 3)) (e_r (e_h (sh := [.sl 0, .fz]) (ks := [.io, .fz]) (MF := MF_f_law_draw) ⟨(f_law_draw_r base).mono (k := 1) (by decide), gd, room⟩ f_law_draw_m f_law_draw_k f_law_draw_b tk (.inl rfl) (h_sl (pv 0) (h_fz (e_int) (h_nil))))))) (p_none)))))))
end Law
namespace Law
open PySem PySem.Spec PyProof.Rows L2 G
/-! ### _law_gauge_line -/
noncomputable def m_f_law_gauge_line : MS := (mSet 2 (mLst (mCons (mC (.str "a")) (mCons (mC (.str "b")) (mCons (mC (.str "bb")) (mCons (mC (.str "c")) (mCons (mC (.str "d")) (mCons (mC (.str "gauge")) (mCons (mC (.str "h")) (mCons (mC (.str "rod")) (mCons (mC (.str "zz")) (mCons (mC (.str "zzzzzz")) (mCons (mC (.str "zzzzzzz")) (mCons (mC (.str "A")) (mNil))))))))))))))).sq ((mSet 3 (m2 dIx (mV 2) (mA dMin2 (mCons (mC (.int 11)) (mCons (mA dMax2 (mCons (mC (.int 0)) (mCons (m2 dAdd (mV 1) (m2 dIx (mLst (mCons (mC (.int 0)) (mCons (mC (.int 0)) (mCons (mC (.int 0)) (mCons (mC (.int 0)) (mCons (mC (.int 0)) (mCons (mC (.int 0)) (mCons (mC (.int 0)) (mCons (mC (.int 1)) (mCons (mC (.int 2)) (mCons (m1 dNeg (mC (.int 1))) (mNil)))))))))))) (mCallH [.sl 0, .fz] MF_f_law_draw ((mV 0).bind fun _ => mCons (mC (.int 10)) (mNil))))) mNil))) mNil))))).sq ((mSet 4 (mA dStr (mCons (m2 dIx (mLst (mCons (mC (.int 0)) (mCons (mC (.int 1)) (mCons (mC (.int 2)) (mCons (mC (.int 7)) (mCons (mC (.int 12)) (mCons (m2 dPw (mC (.int 10)) (mC (.int 9))) (mCons (m2 dAdd (m2 dPw (mC (.int 10)) (mC (.int 9))) (mC (.int 1))) (mCons (mC (.int 99)) (mNil)))))))))) (m2 dSub (mCallH [.sl 0, .fz] MF_f_law_draw ((mV 0).bind fun _ => mCons (mC (.int 8)) (mNil))) (mA dIntOf (mCons (m2 dGt (mCallH [.sl 0, .fz] MF_f_law_draw ((mV 0).bind fun _ => mCons (mC (.int 9)) (mNil))) (mC (.int 0))) mNil)))) mNil))).sq (mRet (m2 dAdd (m2 dAdd (m2 dAdd (mC (.str "gauge ")) (mV 3)) (mC (.str " "))) (mV 4)))))
noncomputable def MF_f_law_gauge_line : MFn := mFn 5 [.io, .fz] false m_f_law_gauge_line
theorem s_f_law_gauge_line : FnScope (["_law_hand_here", "_law_spot", "_law_calls", "_law_call", "_law_much"] : List PySem.Str) (["_law_hand_here", "_law_spot"] : List PySem.Str) (d_f_law_gauge_line).scope := ⟨rfl, rfl, rfl, by decide +kernel, rfl, by decide +kernel, by decide +kernel⟩
theorem w_f_law_gauge_line {P : Program} {w : World} {K : Frag} {mg : PySem.Str → Option Value} {h : Heap} (y : Hy K mg h) : ∃ fd, FunD K (d_f_law_gauge_line).name (d_f_law_gauge_line).qual (d_f_law_gauge_line).params (d_f_law_gauge_line).body (d_f_law_gauge_line).scope ((d_f_law_gauge_line).dvs K) ((d_f_law_gauge_line).kws K) (He.fAd K ("_law_gauge_line", none)) fd ∧ BnF K fd (["_law_hand_here", "_law_spot"] : List PySem.Str) ∧ PySem.W.keepIn K (.ref (He.fAd K ("_law_gauge_line", none))) = true ∧ mg "_law_gauge_line" = some (.ref (He.fAd K ("_law_gauge_line", none))) ∧ ∀ base : Heap, FnG P w K mg base (CXn false P w) 2 (He.fAd K ("_law_gauge_line", none)) fd (["_law_hand_here", "_law_spot"] : List PySem.Str) (SpG K (ct K) [.io, .fz] false MF_f_law_gauge_line) := by
  obtain ⟨fd_f_law_draw, f_law_draw_d, f_law_draw_b, f_law_draw_k, f_law_draw_m, f_law_draw_r⟩ := w_f_law_draw (P := P) (w := w) y
  obtain ⟨fd, D⟩ := y.says.def_ 2
  refine ⟨fd, D, (bnF (D.bindsN fun _ _ _ _ _ _ us hl => match us, hl with | [_, _], _ => rfl)), D.kp, y.glo 8, fun base => fn_g (N := (["_law_hand_here", "_law_spot", "_law_calls", "_law_call", "_law_much"] : List PySem.Str)) (ps := (["_law_hand_here", "_law_spot"] : List PySem.Str)) (ks := [.io, .fz]) (Γl := [.fz, .fz, .fz]) (Γ' := [.io, .fz, .fz, .fz, .fz]) (ro := false) (b := m_f_law_gauge_line) D s_f_law_gauge_line fun X S cdv A outer s H E hX hK hc hge hro tk gd room po => ?_⟩
  obtain ⟨⟨SK, Sct, F0, H0, ios⟩, Sge, SW, gc, gb, Sro⟩ := S
  have hK1 : SK = K := hK; have hc1 : Sct = ct K := hc; clear hK hc; subst hc1; subst hK1; cases hge; cases hro; subst hX
  have hu := room.units
  have nd : (["_law_hand_here", "_law_spot", "_law_calls", "_law_call", "_law_much"] : List PySem.Str).Nodup := by decide +kernel
  exact ss_cons (Γ1 := [.io, .fz, .fz, .fz, .fz]) (s_set (i := 2) (e_lst (a_cons (e_str) (a_cons (e_str) (a_cons (e_str) (a_cons (e_str) (a_cons (e_str) (a_cons (e_str) (a_cons (e_str) (a_cons (e_str) (a_cons (e_str) (a_cons (e_str) (a_cons (e_str) (a_cons (e_str) (a_nil)))))))))))))) nd rfl (by first | exact Or.inl rfl | exact Or.inr rfl) (by first | exact Or.inr rfl | exact Or.inl rfl) ⟨_, rfl, by decide⟩) (ss_cons (Γ1 := [.io, .fz, .fz, .fz, .fz]) (s_set (i := 3) (e_ix (e_v (pv 2)) (e_cb (b_min2 rfl) (a_consR (e_int) (a_oneR (e_r (e_cb (b_max2 rfl) (a_consR (e_int) (a_oneR (e_r (e_add (e_v (pv 1)) (e_r (e_ix (e_lst (a_cons (e_int) (a_cons (e_int) (a_cons (e_int) (a_cons (e_int) (a_cons (e_int) (a_cons (e_int) (a_cons (e_int) (a_cons (e_int) (a_cons (e_int) (a_cons (e_neg (e_int)) (a_nil)))))))))))) (e_h (sh := [.sl 0, .fz]) (ks := [.io, .fz]) (MF := MF_f_law_draw) ⟨(f_law_draw_r base).mono (k := 1) (by decide), gd, room⟩ f_law_draw_m f_law_draw_k f_law_draw_b tk (.inl rfl) (h_sl (pv 0) (h_fz (e_int) (h_nil)))))))))) (y.free 5))))) (y.free 4))) nd rfl (by first | exact Or.inl rfl | exact Or.inr rfl) (by first | exact Or.inr rfl | exact Or.inl rfl) ⟨_, rfl, by decide⟩) (ss_cons (Γ1 := [.io, .fz, .fz, .fz, .fz]) (s_set (i := 4) (e_ct b_str (a_oneR (e_r (e_ix (e_lst (a_cons (e_int) (a_cons (e_int) (a_cons (e_int) (a_cons (e_int) (a_cons (e_int) (a_cons (e_pw (e_int) (e_r (e_int))) (a_cons (e_add (e_pw (e_int) (e_r (e_int))) (e_r (e_int))) (a_cons (e_int) (a_nil)))))))))) (e_sub (e_h (sh := [.sl 0, .fz]) (ks := [.io, .fz]) (MF := MF_f_law_draw) ⟨(f_law_draw_r base).mono (k := 1) (by decide), gd, room⟩ f_law_draw_m f_law_draw_k f_law_draw_b tk (.inl rfl) (h_sl (pv 0) (h_fz (e_int) (h_nil)))) (e_r (e_ct b_int (a_oneR (e_r (e_cmp (c_gt hu rfl) (e_h (sh := [.sl 0, .fz]) (ks := [.io, .fz]) (MF := MF_f_law_draw) ⟨(f_law_draw_r base).mono (k := 1) (by decide), gd, room⟩ f_law_draw_m f_law_draw_k f_law_draw_b tk (.inl rfl) (h_sl (pv 0) (h_fz (e_int) (h_nil)))) (e_r (e_int))))) (y.free 7))))))) (y.free 6)) nd rfl (by first | exact Or.inl rfl | exact Or.inr rfl) (by first | exact Or.inr rfl | exact Or.inl rfl) ⟨_, rfl, by decide⟩) (ss_one (s_ret (e_add (e_add (e_add (e_str) (e_r (e_v (pv 3)))) (e_r (e_str))) (e_r (e_v (pv 4))))))))
end Law
namespace Law
open PySem PySem.Spec PyProof.Rows L2 G
/-! ### _law_rod_line -/
noncomputable def m_f_law_rod_line : MS := (mSet 2 (mLst (mCons (mC (.str "a")) (mCons (mC (.str "b")) (mCons (mC (.str "bb")) (mCons (mC (.str "c")) (mCons (mC (.str "d")) (mCons (mC (.str "gauge")) (mCons (mC (.str "h")) (mCons (mC (.str "rod")) (mCons (mC (.str "zz")) (mNil)))))))))))).sq ((mSet 3 (mCallH [.sl 0, .fz] MF_f_law_draw ((mV 0).bind fun _ => mCons (mA dMax2 (mCons (mC (.int 1)) (mCons (mA dMin2 (mCons (mC (.int 8)) (mCons (m2 dSub (mV 1) (mC (.int 1))) mNil))) mNil))) (mNil)))).sq ((mSet 4 (m2 dAdd (m2 dAdd (mV 3) (mC (.int 1))) (mCallH [.sl 0, .fz] MF_f_law_draw ((mV 0).bind fun _ => mCons (mA dMax2 (mCons (mC (.int 1)) (mCons (m2 dSub (m2 dSub (mA dMin2 (mCons (mC (.int 8)) (mCons (mV 1) mNil))) (mV 3)) (mC (.int 1))) mNil))) (mNil))))).sq (mRet (m2 dAdd (m2 dAdd (m2 dAdd (mC (.str "rod ")) (m2 dIx (mV 2) (mV 3))) (mC (.str " "))) (m2 dIx (mV 2) (mA dMin2 (mCons (mC (.int 8)) (mCons (mV 4) mNil))))))))
noncomputable def MF_f_law_rod_line : MFn := mFn 5 [.io, .fz] false m_f_law_rod_line
theorem s_f_law_rod_line : FnScope (["_law_hand_here", "_law_count", "_law_calls", "_law_low", "_law_mate"] : List PySem.Str) (["_law_hand_here", "_law_count"] : List PySem.Str) (d_f_law_rod_line).scope := ⟨rfl, rfl, rfl, by decide +kernel, rfl, by decide +kernel, by decide +kernel⟩
theorem w_f_law_rod_line {P : Program} {w : World} {K : Frag} {mg : PySem.Str → Option Value} {h : Heap} (y : Hy K mg h) : ∃ fd, FunD K (d_f_law_rod_line).name (d_f_law_rod_line).qual (d_f_law_rod_line).params (d_f_law_rod_line).body (d_f_law_rod_line).scope ((d_f_law_rod_line).dvs K) ((d_f_law_rod_line).kws K) (He.fAd K ("_law_rod_line", none)) fd ∧ BnF K fd (["_law_hand_here", "_law_count"] : List PySem.Str) ∧ PySem.W.keepIn K (.ref (He.fAd K ("_law_rod_line", none))) = true ∧ mg "_law_rod_line" = some (.ref (He.fAd K ("_law_rod_line", none))) ∧ ∀ base : Heap, FnG P w K mg base (CXn false P w) 2 (He.fAd K ("_law_rod_line", none)) fd (["_law_hand_here", "_law_count"] : List PySem.Str) (SpG K (ct K) [.io, .fz] false MF_f_law_rod_line) := by
  obtain ⟨fd_f_law_draw, f_law_draw_d, f_law_draw_b, f_law_draw_k, f_law_draw_m, f_law_draw_r⟩ := w_f_law_draw (P := P) (w := w) y
  obtain ⟨fd, D⟩ := y.says.def_ 3
  refine ⟨fd, D, (bnF (D.bindsN fun _ _ _ _ _ _ us hl => match us, hl with | [_, _], _ => rfl)), D.kp, y.glo 9, fun base => fn_g (N := (["_law_hand_here", "_law_count", "_law_calls", "_law_low", "_law_mate"] : List PySem.Str)) (ps := (["_law_hand_here", "_law_count"] : List PySem.Str)) (ks := [.io, .fz]) (Γl := [.fz, .fz, .fz]) (Γ' := [.io, .fz, .fz, .fz, .fz]) (ro := false) (b := m_f_law_rod_line) D s_f_law_rod_line fun X S cdv A outer s H E hX hK hc hge hro tk gd room po => ?_⟩
  obtain ⟨⟨SK, Sct, F0, H0, ios⟩, Sge, SW, gc, gb, Sro⟩ := S
  have hK1 : SK = K := hK; have hc1 : Sct = ct K := hc; clear hK hc; subst hc1; subst hK1; cases hge; cases hro; subst hX
  have hu := room.units
  have nd : (["_law_hand_here", "_law_count", "_law_calls", "_law_low", "_law_mate"] : List PySem.Str).Nodup := by decide +kernel
  exact ss_cons (Γ1 := [.io, .fz, .fz, .fz, .fz]) (s_set (i := 2) (e_lst (a_cons (e_str) (a_cons (e_str) (a_cons (e_str) (a_cons (e_str) (a_cons (e_str) (a_cons (e_str) (a_cons (e_str) (a_cons (e_str) (a_cons (e_str) (a_nil))))))))))) nd rfl (by first | exact Or.inl rfl | exact Or.inr rfl) (by first | exact Or.inr rfl | exact Or.inl rfl) ⟨_, rfl, by decide⟩) (ss_cons (Γ1 := [.io, .fz, .fz, .fz, .fz]) (s_set (i := 3) (e_h (sh := [.sl 0, .fz]) (ks := [.io, .fz]) (MF := MF_f_law_draw) ⟨(f_law_draw_r base).mono (k := 1) (by decide), gd, room⟩ f_law_draw_m f_law_draw_k f_law_draw_b tk (.inl rfl) (h_sl (pv 0) (h_fz (e_cb (b_max2 rfl) (a_consR (e_int) (a_oneR (e_r (e_cb (b_min2 rfl) (a_consR (e_int) (a_oneR (e_r (e_sub (e_v (pv 1)) (e_r (e_int)))))) (y.free 4))))) (y.free 5)) (h_nil)))) nd rfl (by first | exact Or.inl rfl | exact Or.inr rfl) (by first | exact Or.inr rfl | exact Or.inl rfl) ⟨_, rfl, by decide⟩) (ss_cons (Γ1 := [.io, .fz, .fz, .fz, .fz]) (s_set (i := 4) (e_add (e_add (e_v (pv 3)) (e_r (e_int))) (e_r (e_h (sh := [.sl 0, .fz]) (ks := [.io, .fz]) (MF := MF_f_law_draw) ⟨(f_law_draw_r base).mono (k := 1) (by decide), gd, room⟩ f_law_draw_m f_law_draw_k f_law_draw_b tk (.inl rfl) (h_sl (pv 0) (h_fz (e_cb (b_max2 rfl) (a_consR (e_int) (a_oneR (e_r (e_sub (e_sub (e_cb (b_min2 rfl) (a_consR (e_int) (a_oneR (e_r (e_v (pv 1))))) (y.free 4)) (e_r (e_v (pv 3)))) (e_r (e_int)))))) (y.free 5)) (h_nil)))))) nd rfl (by first | exact Or.inl rfl | exact Or.inr rfl) (by first | exact Or.inr rfl | exact Or.inl rfl) ⟨_, rfl, by decide⟩) (ss_one (s_ret (e_add (e_add (e_add (e_str) (e_r (e_ix (e_v (pv 2)) (e_v (pv 3))))) (e_r (e_str))) (e_r (e_ix (e_v (pv 2)) (e_cb (b_min2 rfl) (a_consR (e_int) (a_oneR (e_r (e_v (pv 4))))) (y.free 4)))))))))
end Law
namespace Law
open PySem PySem.Spec PyProof.Rows L2 G
/-! ### _law_lines -/
noncomputable def b_f_law_lines_1 : MS := mExp (mMl 2 hAppend (mCons (mCallH [.sl 0, .fz] MF_f_law_gauge_line ((mV 0).bind fun _ => mCons (mV 3) (mNil))) (mNil)))
noncomputable def l_f_law_lines_1 : MS := mFor (mRg1 (mCons (mV 1) (mNil))) (gN 3) b_f_law_lines_1
noncomputable def b_f_law_lines_2 : MS := mExp (mMl 2 hAppend (mCons (mCallH [.sl 0, .fz] MF_f_law_rod_line ((mV 0).bind fun _ => mCons (mV 1) (mNil))) (mNil)))
noncomputable def l_f_law_lines_2 : MS := mFor (mRg1 (mCons (m2 dMul (mCallH [.sl 0, .fz] MF_f_law_draw ((mV 0).bind fun _ => mCons (mC (.int 4)) (mNil))) (mA dIntOf (mCons (m2 dGt (mV 1) (mC (.int 1))) mNil))) (mNil))) (gN 3) b_f_law_lines_2
noncomputable def m_f_law_lines : MS := (mPar [1, 2] (mCons (mCallH [.sl 0, .fz] MF_f_law_draw ((mV 0).bind fun _ => mCons (mC (.int 6)) (mNil))) (mCons (mLst (mNil)) (mNil)))).sq ((l_f_law_lines_1).sq ((l_f_law_lines_2).sq ((mSet 4 (mJo (mC (.str "\n")) (mV 2))).sq (mRet (mIf (mB (m2 dEq (mCallH [.sl 0, .fz] MF_f_law_draw ((mV 0).bind fun _ => mCons (mC (.int 2)) (mNil))) (mC (.int 1)))) (mCallH [.sl 0, .fz] MF_f_law_bent ((mV 0).bind fun _ => mCons (mV 4) (mNil))) (mV 4))))))
noncomputable def MF_f_law_lines : MFn := mFn 5 [.io] false m_f_law_lines
theorem s_f_law_lines : FnScope (["_law_hand_here", "_law_count", "_law_found_here", "_law_spot", "_law_lines_here"] : List PySem.Str) (["_law_hand_here"] : List PySem.Str) (d_f_law_lines).scope := ⟨rfl, rfl, rfl, by decide +kernel, rfl, by decide +kernel, by decide +kernel⟩
theorem w_f_law_lines {P : Program} {w : World} {K : Frag} {mg : PySem.Str → Option Value} {h : Heap} (y : Hy K mg h) : ∃ fd, FunD K (d_f_law_lines).name (d_f_law_lines).qual (d_f_law_lines).params (d_f_law_lines).body (d_f_law_lines).scope ((d_f_law_lines).dvs K) ((d_f_law_lines).kws K) (He.fAd K ("_law_lines", none)) fd ∧ BnF K fd (["_law_hand_here"] : List PySem.Str) ∧ PySem.W.keepIn K (.ref (He.fAd K ("_law_lines", none))) = true ∧ mg "_law_lines" = some (.ref (He.fAd K ("_law_lines", none))) ∧ ∀ base : Heap, FnG P w K mg base (CXn false P w) 3 (He.fAd K ("_law_lines", none)) fd (["_law_hand_here"] : List PySem.Str) (SpG K (ct K) [.io] false MF_f_law_lines) := by
  obtain ⟨fd_f_law_draw, f_law_draw_d, f_law_draw_b, f_law_draw_k, f_law_draw_m, f_law_draw_r⟩ := w_f_law_draw (P := P) (w := w) y
  obtain ⟨fd_f_law_gauge_line, f_law_gauge_line_d, f_law_gauge_line_b, f_law_gauge_line_k, f_law_gauge_line_m, f_law_gauge_line_r⟩ := w_f_law_gauge_line (P := P) (w := w) y
  obtain ⟨fd_f_law_rod_line, f_law_rod_line_d, f_law_rod_line_b, f_law_rod_line_k, f_law_rod_line_m, f_law_rod_line_r⟩ := w_f_law_rod_line (P := P) (w := w) y
  obtain ⟨fd_f_law_bent, f_law_bent_d, f_law_bent_b, f_law_bent_k, f_law_bent_m, f_law_bent_r⟩ := w_f_law_bent (P := P) (w := w) y
  obtain ⟨fd, D⟩ := y.says.def_ 4
  refine ⟨fd, D, (bnF (D.bindsN fun _ _ _ _ _ _ us hl => match us, hl with | [_], _ => rfl)), D.kp, y.glo 11, fun base => fn_g (N := (["_law_hand_here", "_law_count", "_law_found_here", "_law_spot", "_law_lines_here"] : List PySem.Str)) (ps := (["_law_hand_here"] : List PySem.Str)) (ks := [.io]) (Γl := [.fz, .ow, .fz, .fz]) (Γ' := [.io, .fz, .ow, .fz, .fz]) (ro := false) (b := m_f_law_lines) D s_f_law_lines fun X S cdv A outer s H E hX hK hc hge hro tk gd room po => ?_⟩
  obtain ⟨⟨SK, Sct, F0, H0, ios⟩, Sge, SW, gc, gb, Sro⟩ := S
  have hK1 : SK = K := hK; have hc1 : Sct = ct K := hc; clear hK hc; subst hc1; subst hK1; cases hge; cases hro; subst hX
  have hu := room.units
  have nd : (["_law_hand_here", "_law_count", "_law_found_here", "_law_spot", "_law_lines_here"] : List PySem.Str).Nodup := by decide +kernel
  exact ss_cons (Γ1 := [.io, .fz, .ow, .fz, .fz]) (s_par2 (i := 1) (j := 2) (ba := false) (bb := true) rfl nd (v_fz (e_h (sh := [.sl 0, .fz]) (ks := [.io, .fz]) (MF := MF_f_law_draw) ⟨(f_law_draw_r base).mono (k := 2) (by decide), gd, room⟩ f_law_draw_m f_law_draw_k f_law_draw_b tk (.inl rfl) (h_sl (pv 0) (h_fz (e_int) (h_nil)))) (v_ow (o_lst (a_nil)) (v_nil))) rfl rfl (by decide) rfl rfl) (ss_cons (Γ1 := [.io, .fz, .ow, .fz, .fz]) (s_for (Γ1 := [.io, .fz, .ow, .fz, .fz]) (is := [3]) po rfl (i_rng1 (a_cons (e_v (pv 1)) (a_nil)) (y.free 10)) (g_name (i := 3) nd rfl (by first | exact Or.inl rfl | exact Or.inr rfl) (by first | exact Or.inr rfl | exact Or.inl rfl) ⟨_, rfl, by decide⟩) (ss_one (s_exp (e_mt F.slot_list_append F.type_list_append mt_append mk_append (pv 2) (a_cons (e_h (sh := [.sl 0, .fz]) (ks := [.io, .fz]) (MF := MF_f_law_gauge_line) ⟨(f_law_gauge_line_r base).mono (k := 2) (by decide), gd, room⟩ f_law_gauge_line_m f_law_gauge_line_k f_law_gauge_line_b tk (.inl rfl) (h_sl (pv 0) (h_fz (e_v (pv 3)) (h_nil)))) (a_nil)) rfl (by decide) rfl)))) (ss_cons (Γ1 := [.io, .fz, .ow, .fz, .fz]) (s_for (Γ1 := [.io, .fz, .ow, .fz, .fz]) (is := [3]) po rfl (i_rng1 (a_cons (e_mul (e_h (sh := [.sl 0, .fz]) (ks := [.io, .fz]) (MF := MF_f_law_draw) ⟨(f_law_draw_r base).mono (k := 2) (by decide), gd, room⟩ f_law_draw_m f_law_draw_k f_law_draw_b tk (.inl rfl) (h_sl (pv 0) (h_fz (e_int) (h_nil)))) (e_r (e_ct b_int (a_oneR (e_r (e_cmp (c_gt hu rfl) (e_v (pv 1)) (e_r (e_int))))) (y.free 7)))) (a_nil)) (y.free 10)) (g_name (i := 3) nd rfl (by first | exact Or.inl rfl | exact Or.inr rfl) (by first | exact Or.inr rfl | exact Or.inl rfl) ⟨_, rfl, by decide⟩) (ss_one (s_exp (e_mt F.slot_list_append F.type_list_append mt_append mk_append (pv 2) (a_cons (e_h (sh := [.sl 0, .fz]) (ks := [.io, .fz]) (MF := MF_f_law_rod_line) ⟨(f_law_rod_line_r base).mono (k := 2) (by decide), gd, room⟩ f_law_rod_line_m f_law_rod_line_k f_law_rod_line_b tk (.inl rfl) (h_sl (pv 0) (h_fz (e_v (pv 1)) (h_nil)))) (a_nil)) rfl (by decide) rfl)))) (ss_cons (Γ1 := [.io, .fz, .ow, .fz, .fz]) (s_set (i := 4) (e_join (e_str) (r_v (pv 2)) rfl) nd rfl (by first | exact Or.inl rfl | exact Or.inr rfl) (by first | exact Or.inr rfl | exact Or.inl rfl) ⟨_, rfl, by decide⟩) (ss_one (s_ret (e_if (t_cmp (c_eq hu rfl) (e_h (sh := [.sl 0, .fz]) (ks := [.io, .fz]) (MF := MF_f_law_draw) ⟨(f_law_draw_r base).mono (k := 2) (by decide), gd, room⟩ f_law_draw_m f_law_draw_k f_law_draw_b tk (.inl rfl) (h_sl (pv 0) (h_fz (e_int) (h_nil)))) (e_r (e_int))) (e_h (sh := [.sl 0, .fz]) (ks := [.io, .fz]) (MF := MF_f_law_bent) ⟨(f_law_bent_r base).mono (k := 2) (by decide), gd, room⟩ f_law_bent_m f_law_bent_k f_law_bent_b tk (.inl rfl) (h_sl (pv 0) (h_fz (e_v (pv 4)) (h_nil)))) (e_v (pv 4))))))))
end Law
namespace Law
open PySem PySem.Spec PyProof.Rows L2 G
/-! ### _law_hand -/
noncomputable def m_f_law_hand : MS := (mSet 1 (mIf (mOr (mB (m2 dLt (mV 0) (mC (.int 0)))) (mB (m2 dGe (mV 0) (m2 dPw (mC (.int 10)) (mC (.int 18)))))) (mA dAbs (mCons (mV 0) mNil)) (mC (.int 0)))).sq (mRet (mLst (mCons (mV 1) (mCons (m2 dAdd (m2 dMul (m2 dMd (mV 0) (mC (.int 1000000207))) (mC (.int 9013))) (mC (.int 5021))) (mCons (mC (.int 0)) (mNil))))))
noncomputable def MF_f_law_hand : MFn := mFn 2 [.fz] true m_f_law_hand
theorem s_f_law_hand : FnScope (["_law_cell_here", "_law_digits"] : List PySem.Str) (["_law_cell_here"] : List PySem.Str) (d_f_law_hand).scope := ⟨rfl, rfl, rfl, by decide +kernel, rfl, by decide +kernel, by decide +kernel⟩
theorem w_f_law_hand {P : Program} {w : World} {K : Frag} {mg : PySem.Str → Option Value} {h : Heap} (y : Hy K mg h) : ∃ fd, FunD K (d_f_law_hand).name (d_f_law_hand).qual (d_f_law_hand).params (d_f_law_hand).body (d_f_law_hand).scope ((d_f_law_hand).dvs K) ((d_f_law_hand).kws K) (He.fAd K ("_law_hand", none)) fd ∧ BnF K fd (["_law_cell_here"] : List PySem.Str) ∧ PySem.W.keepIn K (.ref (He.fAd K ("_law_hand", none))) = true ∧ mg "_law_hand" = some (.ref (He.fAd K ("_law_hand", none))) ∧ ∀ base : Heap, FnG P w K mg base (CXn false P w) 1 (He.fAd K ("_law_hand", none)) fd (["_law_cell_here"] : List PySem.Str) (SpG K (ct K) [.fz] true MF_f_law_hand) := by
  obtain ⟨fd, D⟩ := y.says.def_ 5
  refine ⟨fd, D, (bnF (D.bindsN fun _ _ _ _ _ _ us hl => match us, hl with | [_], _ => rfl)), D.kp, y.glo 13, fun base => fn_g (N := (["_law_cell_here", "_law_digits"] : List PySem.Str)) (ps := (["_law_cell_here"] : List PySem.Str)) (ks := [.fz]) (Γl := [.fz]) (Γ' := [.fz, .fz]) (ro := true) (b := m_f_law_hand) D s_f_law_hand fun X S cdv A outer s H E hX hK hc hge hro tk gd room po => ?_⟩
  obtain ⟨⟨SK, Sct, F0, H0, ios⟩, Sge, SW, gc, gb, Sro⟩ := S
  have hK1 : SK = K := hK; have hc1 : Sct = ct K := hc; clear hK hc; subst hc1; subst hK1; cases hge; cases hro; subst hX
  have hu := room.units
  have nd : (["_law_cell_here", "_law_digits"] : List PySem.Str).Nodup := by decide +kernel
  exact ss_cons (Γ1 := [.fz, .fz]) (s_set (i := 1) (e_if (t_w (w_or (t_cmp (c_lt hu rfl) (e_v (pv 0)) (e_r (e_int))) (w_or1 (t_cmp (c_ge hu rfl) (e_v (pv 0)) (e_r (e_pw (e_int) (e_r (e_int)))))))) (e_cb (b_abs) (a_oneR (e_r (e_v (pv 0)))) (y.free 12)) (e_int)) nd rfl (by first | exact Or.inl rfl | exact Or.inr rfl) (by first | exact Or.inr rfl | exact Or.inl rfl) ⟨_, rfl, by decide⟩) (ss_one (s_retO (o_lst (a_cons (e_v (pv 1)) (a_cons (e_add (e_mul (e_md (e_v (pv 0)) (e_r (e_int))) (e_r (e_int))) (e_r (e_int))) (a_cons (e_int) (a_nil)))))))
end Law
namespace Law
open PySem PySem.Spec PyProof.Rows L2 G
/-! ### _law_cell -/
noncomputable def b_f_law_cell_1 : MS := mSet 2 (m2 dMd (m2 dAdd (m2 dMul (mV 2) (mC (.int 70019))) (mV 3)) (mC (.int 1000000207)))
noncomputable def l_f_law_cell_1 : MS := mFor (mIt (mSl (mV 0) (M.ret none) (mPt (mC (.int 4))))) (gN 3) b_f_law_cell_1
noncomputable def m_f_law_cell : MS := (mIfS (mB (m2 dLt (mV 1) (mA dLen (mCons (mV 0) mNil)))) (mRet (m2 dIx (mV 0) (mV 1))) (mNx)).sq ((mSet 2 (m2 dMd (m2 dMul (mC (.int 30013)) (m2 dAdd (m2 dAdd (m2 dMul (mV 1) (mV 1)) (m2 dMul (mC (.int 13)) (mV 1))) (mC (.int 7)))) (mC (.int 1000000207)))).sq ((l_f_law_cell_1).sq (mRet (mV 2))))
noncomputable def MF_f_law_cell : MFn := mFn 4 [.fz, .fz] false m_f_law_cell
theorem s_f_law_cell : FnScope (["_law_script", "_law_k", "_law_state", "_law_cell_here"] : List PySem.Str) (["_law_script", "_law_k"] : List PySem.Str) (d_f_law_cell).scope := ⟨rfl, rfl, rfl, by decide +kernel, rfl, by decide +kernel, by decide +kernel⟩
theorem w_f_law_cell {P : Program} {w : World} {K : Frag} {mg : PySem.Str → Option Value} {h : Heap} (y : Hy K mg h) : ∃ fd, FunD K (d_f_law_cell).name (d_f_law_cell).qual (d_f_law_cell).params (d_f_law_cell).body (d_f_law_cell).scope ((d_f_law_cell).dvs K) ((d_f_law_cell).kws K) (He.fAd K ("_law_cell", none)) fd ∧ BnF K fd (["_law_script", "_law_k"] : List PySem.Str) ∧ PySem.W.keepIn K (.ref (He.fAd K ("_law_cell", none))) = true ∧ mg "_law_cell" = some (.ref (He.fAd K ("_law_cell", none))) ∧ ∀ base : Heap, FnG P w K mg base (CXn false P w) 1 (He.fAd K ("_law_cell", none)) fd (["_law_script", "_law_k"] : List PySem.Str) (SpG K (ct K) [.fz, .fz] false MF_f_law_cell) := by
  obtain ⟨fd, D⟩ := y.says.def_ 6
  refine ⟨fd, D, (bnF (D.bindsN fun _ _ _ _ _ _ us hl => match us, hl with | [_, _], _ => rfl)), D.kp, y.glo 14, fun base => fn_g (N := (["_law_script", "_law_k", "_law_state", "_law_cell_here"] : List PySem.Str)) (ps := (["_law_script", "_law_k"] : List PySem.Str)) (ks := [.fz, .fz]) (Γl := [.fz, .fz]) (Γ' := [.fz, .fz, .fz, .fz]) (ro := false) (b := m_f_law_cell) D s_f_law_cell fun X S cdv A outer s H E hX hK hc hge hro tk gd room po => ?_⟩
  obtain ⟨⟨SK, Sct, F0, H0, ios⟩, Sge, SW, gc, gb, Sro⟩ := S
  have hK1 : SK = K := hK; have hc1 : Sct = ct K := hc; clear hK hc; subst hc1; subst hK1; cases hge; cases hro; subst hX
  have hu := room.units
  have nd : (["_law_script", "_law_k", "_law_state", "_law_cell_here"] : List PySem.Str).Nodup := by decide +kernel
  exact ss_cons (Γ1 := [.fz, .fz, .fz, .fz]) (s_if (t_cmp (c_lt hu rfl) (e_v (pv 1)) (e_r (e_cb (b_len rfl) (a_oneR (e_r (e_v (pv 0)))) (y.free 2)))) (ss_one (s_ret (e_ix (e_v (pv 0)) (e_v (pv 1))))) (ss_nil)) (ss_cons (Γ1 := [.fz, .fz, .fz, .fz]) (s_set (i := 2) (e_md (e_mul (e_int) (e_r (e_add (e_add (e_mul (e_v (pv 1)) (e_r (e_v (pv 1)))) (e_r (e_mul (e_int) (e_r (e_v (pv 1)))))) (e_r (e_int))))) (e_r (e_int))) nd rfl (by first | exact Or.inl rfl | exact Or.inr rfl) (by first | exact Or.inr rfl | exact Or.inl rfl) ⟨_, rfl, by decide⟩) (ss_cons (Γ1 := [.fz, .fz, .fz, .fz]) (s_for (Γ1 := [.fz, .fz, .fz, .fz]) (is := [3]) po rfl (i_any (e_sl (e_v (pv 0)) (p_none) (p_some (e_int)))) (g_name (i := 3) nd rfl (by first | exact Or.inl rfl | exact Or.inr rfl) (by first | exact Or.inr rfl | exact Or.inl rfl) ⟨_, rfl, by decide⟩) (ss_one (s_set (i := 2) (e_md (e_add (e_mul (e_v (pv 2)) (e_r (e_int))) (e_r (e_v (pv 3)))) (e_r (e_int))) nd rfl (by first | exact Or.inl rfl | exact Or.inr rfl) (by first | exact Or.inr rfl | exact Or.inl rfl) ⟨_, rfl, by decide⟩))) (ss_one (s_ret (e_v (pv 2))))))
end Law
namespace Law
open PySem PySem.Spec PyProof.Rows L2 G
/-! ### is_name -/
noncomputable def c_f_is_name_1 : M D := mLc [1] (mIt (mV 0)) (gN 1) (mYes) (m2 dIn (mV 1) (mC (.str "abcdefghijklmnopqrstuvwxyz")))
noncomputable def m_f_is_name : MS := (mIfS (mOr (mNot (mT (m1 (dIs .str) (mV 0)))) (mNot (mB (mCh dLe dLe (mC (.int 1)) (mA dLen (mCons (mV 0) mNil)) (mC (.int 6)))))) (mRet (mC (.bl false))) (mNx)).sq (mRet (mA dAll (mCons (c_f_is_name_1) mNil)))
noncomputable def MF_f_is_name : MFn := mFn 2 [.fz] false m_f_is_name
theorem s_f_is_name : FnScope (["thing", "sign"] : List PySem.Str) (["thing"] : List PySem.Str) (d_f_is_name).scope := ⟨rfl, rfl, rfl, by decide +kernel, rfl, by decide +kernel, by decide +kernel⟩
theorem w_f_is_name {P : Program} {w : World} {K : Frag} {mg : PySem.Str → Option Value} {h : Heap} (y : Hy K mg h) : ∃ fd, FunD K (d_f_is_name).name (d_f_is_name).qual (d_f_is_name).params (d_f_is_name).body (d_f_is_name).scope ((d_f_is_name).dvs K) ((d_f_is_name).kws K) (He.fAd K ("is_name", none)) fd ∧ BnF K fd (["thing"] : List PySem.Str) ∧ PySem.W.keepIn K (.ref (He.fAd K ("is_name", none))) = true ∧ mg "is_name" = some (.ref (He.fAd K ("is_name", none))) ∧ ∀ base : Heap, FnG P w K mg base (CXn true P w) 1 (He.fAd K ("is_name", none)) fd (["thing"] : List PySem.Str) (SpG K (ct K) [.fz] false MF_f_is_name) := by
  obtain ⟨fd, D⟩ := y.says.def_ 7
  refine ⟨fd, D, (bnF (D.bindsN fun _ _ _ _ _ _ us hl => match us, hl with | [_], _ => rfl)), D.kp, y.glo 17, fun base => fn_g (N := (["thing", "sign"] : List PySem.Str)) (ps := (["thing"] : List PySem.Str)) (ks := [.fz]) (Γl := [.fz]) (Γ' := [.fz, .fz]) (ro := false) (b := m_f_is_name) D s_f_is_name fun X S cdv A outer s H E hX hK hc hge hro tk gd room po => ?_⟩
  obtain ⟨⟨SK, Sct, F0, H0, ios⟩, Sge, SW, gc, gb, Sro⟩ := S
  have hK1 : SK = K := hK; have hc1 : Sct = ct K := hc; clear hK hc; subst hc1; subst hK1; cases hge; cases hro; subst hX
  have hu := room.units
  have nd : (["thing", "sign"] : List PySem.Str).Nodup := by decide +kernel
  exact ss_cons (Γ1 := [.fz, .fz]) (s_if (t_w (w_or (t_not (t_tru (e_r (e_is (T := .str) (e_r (e_v (pv 0))) rfl (y.free 15) (y.free 6))) rfl)) (w_or1 (t_not (t_chain (c_le hu rfl) (c_le hu rfl) (e_int) (e_cb (b_len rfl) (a_oneR (e_r (e_v (pv 0)))) (y.free 2)) (e_r (e_int))))))) (ss_one (s_ret (e_bl))) (ss_nil)) (ss_one (s_ret (e_cb (b_all rfl rfl) (a_oneR (e_r (e_o (o_lc (own := [("sign", 1)]) (is := [1]) rfl nd (i_any (e_v (pv 0))) rfl (fun _ _ _ _ _ => g_name (i := 1) nd rfl (by first | exact Or.inl rfl | exact Or.inr rfl) (by first | exact Or.inr rfl | exact Or.inl rfl) ⟨_, rfl, by decide⟩) (fun _ _ _ _ _ => ts_nil) (fun _ _ _ _ _ => e_cmp (c_in hu rfl) (e_v (pv 1)) (e_r (e_str))))))) (y.free 16))))
end Law
namespace Law
open PySem PySem.Spec PyProof.Rows L2 G
/-! ### is_whole -/
noncomputable def m_f_is_whole : MS := mRet (mAndV (m1 (dIs .int) (mV 0)) (m1 dNot (m1 (dIs .bool) (mV 0))))
noncomputable def MF_f_is_whole : MFn := mFn 1 [.fz] false m_f_is_whole
theorem s_f_is_whole : FnScope (["thing"] : List PySem.Str) (["thing"] : List PySem.Str) (d_f_is_whole).scope := ⟨rfl, rfl, rfl, by decide +kernel, rfl, by decide +kernel, by decide +kernel⟩
theorem w_f_is_whole {P : Program} {w : World} {K : Frag} {mg : PySem.Str → Option Value} {h : Heap} (y : Hy K mg h) : ∃ fd, FunD K (d_f_is_whole).name (d_f_is_whole).qual (d_f_is_whole).params (d_f_is_whole).body (d_f_is_whole).scope ((d_f_is_whole).dvs K) ((d_f_is_whole).kws K) (He.fAd K ("is_whole", none)) fd ∧ BnF K fd (["thing"] : List PySem.Str) ∧ PySem.W.keepIn K (.ref (He.fAd K ("is_whole", none))) = true ∧ mg "is_whole" = some (.ref (He.fAd K ("is_whole", none))) ∧ ∀ base : Heap, FnG P w K mg base (CXn true P w) 1 (He.fAd K ("is_whole", none)) fd (["thing"] : List PySem.Str) (SpG K (ct K) [.fz] false MF_f_is_whole) := by
  obtain ⟨fd, D⟩ := y.says.def_ 8
  refine ⟨fd, D, (bnF (D.bindsN fun _ _ _ _ _ _ us hl => match us, hl with | [_], _ => rfl)), D.kp, y.glo 19, fun base => fn_g (N := (["thing"] : List PySem.Str)) (ps := (["thing"] : List PySem.Str)) (ks := [.fz]) (Γl := []) (Γ' := [.fz]) (ro := false) (b := m_f_is_whole) D s_f_is_whole fun X S cdv A outer s H E hX hK hc hge hro tk gd room po => ?_⟩
  obtain ⟨⟨SK, Sct, F0, H0, ios⟩, Sge, SW, gc, gb, Sro⟩ := S
  have hK1 : SK = K := hK; have hc1 : Sct = ct K := hc; clear hK hc; subst hc1; subst hK1; cases hge; cases hro; subst hX
  have hu := room.units
  have nd : (["thing"] : List PySem.Str).Nodup := by decide +kernel
  exact ss_one (s_ret (e_and (e_is (T := .int) (e_r (e_v (pv 0))) rfl (y.free 15) (y.free 7)) (e_one (e_not (e_is (T := .bool) (e_r (e_v (pv 0))) rfl (y.free 15) (y.free 18))))))
end Law
namespace Law
open PySem PySem.Spec PyProof.Rows L2 G
/-! ### is_number -/
noncomputable def m_f_is_number : MS := mRet (mAndV (mCkd 1 0 1 (fun ds _ => ds) MF_f_is_whole (mCons (mV 0) (mNil)) (mNil)) (mCh dLe dLe (mC (.int 0)) (mV 0) (mV 1)))
noncomputable def MF_f_is_number : MFn := mFn 2 [.fz, .fz] false m_f_is_number
theorem s_f_is_number : FnScope (["thing", "most"] : List PySem.Str) (["thing", "most"] : List PySem.Str) (d_f_is_number).scope := ⟨rfl, rfl, rfl, by decide +kernel, rfl, by decide +kernel, by decide +kernel⟩
theorem w_f_is_number {P : Program} {w : World} {K : Frag} {mg : PySem.Str → Option Value} {h : Heap} (y : Hy K mg h) : ∃ fd, FunD K (d_f_is_number).name (d_f_is_number).qual (d_f_is_number).params (d_f_is_number).body (d_f_is_number).scope ((d_f_is_number).dvs K) ((d_f_is_number).kws K) (He.fAd K ("is_number", none)) fd ∧ BnF K fd (["thing", "most"] : List PySem.Str) ∧ PySem.W.keepIn K (.ref (He.fAd K ("is_number", none))) = true ∧ mg "is_number" = some (.ref (He.fAd K ("is_number", none))) ∧ ∀ base : Heap, FnG P w K mg base (CXn true P w) 2 (He.fAd K ("is_number", none)) fd (["thing", "most"] : List PySem.Str) (SpG K (ct K) [.fz, .fz] false MF_f_is_number) := by
  obtain ⟨fd_f_is_whole, f_is_whole_d, f_is_whole_b, f_is_whole_k, f_is_whole_m, f_is_whole_r⟩ := w_f_is_whole (P := P) (w := w) y
  obtain ⟨fd, D⟩ := y.says.def_ 9
  refine ⟨fd, D, (bnF (D.bindsN fun _ _ _ _ _ _ us hl => match us, hl with | [_, _], _ => rfl)), D.kp, y.glo 20, fun base => fn_g (N := (["thing", "most"] : List PySem.Str)) (ps := (["thing", "most"] : List PySem.Str)) (ks := [.fz, .fz]) (Γl := []) (Γ' := [.fz, .fz]) (ro := false) (b := m_f_is_number) D s_f_is_number fun X S cdv A outer s H E hX hK hc hge hro tk gd room po => ?_⟩
  obtain ⟨⟨SK, Sct, F0, H0, ios⟩, Sge, SW, gc, gb, Sro⟩ := S
  have hK1 : SK = K := hK; have hc1 : Sct = ct K := hc; clear hK hc; subst hc1; subst hK1; cases hge; cases hro; subst hX
  have hu := room.units
  have nd : (["thing", "most"] : List PySem.Str).Nodup := by decide +kernel
  exact ss_one (s_ret (e_and (e_g (ks := [.fz]) (MF := MF_f_is_whole) ⟨(f_is_whole_r base).mono (k := 1) (by decide), gd, room⟩ f_is_whole_m f_is_whole_k f_is_whole_b.d tk (.inl rfl) (a_cons (e_v (pv 0)) (a_nil)) rfl) (e_one (e_chain (c_le hu rfl) (c_le hu rfl) (e_int) (e_v (pv 0)) (e_r (e_v (pv 1)))))))
end Law
namespace Law
open PySem PySem.Spec PyProof.Rows L2 G
/-! ### is_gauge -/
noncomputable def m_f_is_gauge : MS := mRet (mAndV (m1 (dIs .tuple) (mV 0)) (mAndV (m2 dEq (mA dLen (mCons (mV 0) mNil)) (mC (.int 2))) (mAndV (mCkd 1 0 1 (fun ds _ => ds) MF_f_is_name (mCons (m2 dIx (mV 0) (mC (.int 0))) (mNil)) (mNil)) (mCkd 2 0 2 (fun ds _ => ds) MF_f_is_number (mCons (m2 dIx (mV 0) (mC (.int 1))) (mCons (mC (.int (1000000000))) (mNil))) (mNil)))))
noncomputable def MF_f_is_gauge : MFn := mFn 1 [.fz] false m_f_is_gauge
theorem s_f_is_gauge : FnScope (["thing"] : List PySem.Str) (["thing"] : List PySem.Str) (d_f_is_gauge).scope := ⟨rfl, rfl, rfl, by decide +kernel, rfl, by decide +kernel, by decide +kernel⟩
theorem w_f_is_gauge {P : Program} {w : World} {K : Frag} {mg : PySem.Str → Option Value} {h : Heap} (y : Hy K mg h) : ∃ fd, FunD K (d_f_is_gauge).name (d_f_is_gauge).qual (d_f_is_gauge).params (d_f_is_gauge).body (d_f_is_gauge).scope ((d_f_is_gauge).dvs K) ((d_f_is_gauge).kws K) (He.fAd K ("is_gauge", none)) fd ∧ BnF K fd (["thing"] : List PySem.Str) ∧ PySem.W.keepIn K (.ref (He.fAd K ("is_gauge", none))) = true ∧ mg "is_gauge" = some (.ref (He.fAd K ("is_gauge", none))) ∧ ∀ base : Heap, FnG P w K mg base (CXn true P w) 3 (He.fAd K ("is_gauge", none)) fd (["thing"] : List PySem.Str) (SpG K (ct K) [.fz] false MF_f_is_gauge) := by
  obtain ⟨fd_f_is_number, f_is_number_d, f_is_number_b, f_is_number_k, f_is_number_m, f_is_number_r⟩ := w_f_is_number (P := P) (w := w) y
  obtain ⟨fd_f_is_name, f_is_name_d, f_is_name_b, f_is_name_k, f_is_name_m, f_is_name_r⟩ := w_f_is_name (P := P) (w := w) y
  obtain ⟨fd, D⟩ := y.says.def_ 10
  refine ⟨fd, D, (bnF (D.bindsN fun _ _ _ _ _ _ us hl => match us, hl with | [_], _ => rfl)), D.kp, y.glo 23, fun base => fn_g (N := (["thing"] : List PySem.Str)) (ps := (["thing"] : List PySem.Str)) (ks := [.fz]) (Γl := []) (Γ' := [.fz]) (ro := false) (b := m_f_is_gauge) D s_f_is_gauge fun X S cdv A outer s H E hX hK hc hge hro tk gd room po => ?_⟩
  obtain ⟨⟨SK, Sct, F0, H0, ios⟩, Sge, SW, gc, gb, Sro⟩ := S
  have hK1 : SK = K := hK; have hc1 : Sct = ct K := hc; clear hK hc; subst hc1; subst hK1; cases hge; cases hro; subst hX
  have hu := room.units
  have nd : (["thing"] : List PySem.Str).Nodup := by decide +kernel
  exact ss_one (s_ret (e_and (e_is (T := .tuple) (e_r (e_v (pv 0))) rfl (y.free 15) (y.free 22)) (e_and (e_cmp (c_eq hu rfl) (e_cb (b_len rfl) (a_oneR (e_r (e_v (pv 0)))) (y.free 2)) (e_r (e_int))) (e_and (e_g (ks := [.fz]) (MF := MF_f_is_name) ⟨(f_is_name_r base).mono (k := 2) (by decide), gd, room⟩ f_is_name_m f_is_name_k f_is_name_b.d tk (.inl rfl) (a_cons (e_ix (e_v (pv 0)) (e_int)) (a_nil)) rfl) (e_one (e_g (ks := [.fz, .fz]) (MF := MF_f_is_number) ⟨(f_is_number_r base).mono (k := 2) (by decide), gd, room⟩ f_is_number_m f_is_number_k f_is_number_b.d tk (.inl rfl) (a_cons (e_ix (e_v (pv 0)) (e_int)) (a_cons (e_gint (y.int_ 21)) (a_nil))) rfl))))))
end Law
namespace Law
open PySem PySem.Spec PyProof.Rows L2 G
/-! ### odd_gauge -/
noncomputable def b_f_odd_gauge_1 : MS := (mIfS (mOr (mNot (mT (mCkd 1 0 1 (fun ds _ => ds) MF_f_is_gauge (mCons (mV 3) (mNil)) (mNil)))) (mB (m2 dLe (m2 dIx (mV 3) (mC (.int 0))) (mV 1)))) (mRet (mV 2)) (mNx)).sq (mSet 1 (m2 dIx (mV 3) (mC (.int 0))))
noncomputable def l_f_odd_gauge_1 : MS := mFor (mEn (mCons (mV 0) (mNil))) (gT 2 (gC (gN 2) (gC (gN 3) (gE)))) b_f_odd_gauge_1
noncomputable def m_f_odd_gauge : MS := (mSet 1 (mC (.str ""))).sq ((l_f_odd_gauge_1).sq (mRet (mC .non)))
noncomputable def MF_f_odd_gauge : MFn := mFn 4 [.fz] false m_f_odd_gauge
theorem s_f_odd_gauge : FnScope (["gauges", "last", "place", "gauge"] : List PySem.Str) (["gauges"] : List PySem.Str) (d_f_odd_gauge).scope := ⟨rfl, rfl, rfl, by decide +kernel, rfl, by decide +kernel, by decide +kernel⟩
theorem w_f_odd_gauge {P : Program} {w : World} {K : Frag} {mg : PySem.Str → Option Value} {h : Heap} (y : Hy K mg h) : ∃ fd, FunD K (d_f_odd_gauge).name (d_f_odd_gauge).qual (d_f_odd_gauge).params (d_f_odd_gauge).body (d_f_odd_gauge).scope ((d_f_odd_gauge).dvs K) ((d_f_odd_gauge).kws K) (He.fAd K ("odd_gauge", none)) fd ∧ BnF K fd (["gauges"] : List PySem.Str) ∧ PySem.W.keepIn K (.ref (He.fAd K ("odd_gauge", none))) = true ∧ mg "odd_gauge" = some (.ref (He.fAd K ("odd_gauge", none))) ∧ ∀ base : Heap, FnG P w K mg base (CXn true P w) 4 (He.fAd K ("odd_gauge", none)) fd (["gauges"] : List PySem.Str) (SpG K (ct K) [.fz] false MF_f_odd_gauge) := by
  obtain ⟨fd_f_is_gauge, f_is_gauge_d, f_is_gauge_b, f_is_gauge_k, f_is_gauge_m, f_is_gauge_r⟩ := w_f_is_gauge (P := P) (w := w) y
  obtain ⟨fd, D⟩ := y.says.def_ 11
  refine ⟨fd, D, (bnF (D.bindsN fun _ _ _ _ _ _ us hl => match us, hl with | [_], _ => rfl)), D.kp, y.glo 25, fun base => fn_g (N := (["gauges", "last", "place", "gauge"] : List PySem.Str)) (ps := (["gauges"] : List PySem.Str)) (ks := [.fz]) (Γl := [.fz, .fz, .fz]) (Γ' := [.fz, .fz, .fz, .fz]) (ro := false) (b := m_f_odd_gauge) D s_f_odd_gauge fun X S cdv A outer s H E hX hK hc hge hro tk gd room po => ?_⟩
  obtain ⟨⟨SK, Sct, F0, H0, ios⟩, Sge, SW, gc, gb, Sro⟩ := S
  have hK1 : SK = K := hK; have hc1 : Sct = ct K := hc; clear hK hc; subst hc1; subst hK1; cases hge; cases hro; subst hX
  have hu := room.units
  have nd : (["gauges", "last", "place", "gauge"] : List PySem.Str).Nodup := by decide +kernel
  exact ss_cons (Γ1 := [.fz, .fz, .fz, .fz]) (s_set (i := 1) (e_str) nd rfl (by first | exact Or.inl rfl | exact Or.inr rfl) (by first | exact Or.inr rfl | exact Or.inl rfl) ⟨_, rfl, by decide⟩) (ss_cons (Γ1 := [.fz, .fz, .fz, .fz]) (s_for (Γ1 := [.fz, .fz, .fz, .fz]) (is := [2, 3]) po rfl (i_en (a_cons (e_v (pv 0)) (a_nil)) (y.free 24)) (g_tup rfl (g_cons (g_name (i := 2) nd rfl (by first | exact Or.inl rfl | exact Or.inr rfl) (by first | exact Or.inr rfl | exact Or.inl rfl) ⟨_, rfl, by decide⟩) (g_cons (g_name (i := 3) nd rfl (by first | exact Or.inl rfl | exact Or.inr rfl) (by first | exact Or.inr rfl | exact Or.inl rfl) ⟨_, rfl, by decide⟩) (g_nil)))) (ss_cons (Γ1 := [.fz, .fz, .fz, .fz]) (s_if (t_w (w_or (t_not (t_tru (e_r (e_g (ks := [.fz]) (MF := MF_f_is_gauge) ⟨(f_is_gauge_r base).mono (k := 3) (by decide), gd, room⟩ f_is_gauge_m f_is_gauge_k f_is_gauge_b.d tk (.inl rfl) (a_cons (e_v (pv 3)) (a_nil)) rfl)) rfl)) (w_or1 (t_cmp (c_le hu rfl) (e_ix (e_v (pv 3)) (e_int)) (e_r (e_v (pv 1))))))) (ss_one (s_ret (e_v (pv 2)))) (ss_nil)) (ss_one (s_set (i := 1) (e_ix (e_v (pv 3)) (e_int)) nd rfl (by first | exact Or.inl rfl | exact Or.inr rfl) (by first | exact Or.inr rfl | exact Or.inl rfl) ⟨_, rfl, by decide⟩)))) (ss_one (s_ret (e_non))))
end Law
namespace Law
open PySem PySem.Spec PyProof.Rows L2 G
/-! ### is_rod -/
noncomputable def c_f_is_rod_1 : M D := mLc [2] (mIt (mV 0)) (gN 2) (mYes) (mAndV (mCkd 1 0 1 (fun ds _ => ds) MF_f_is_name (mCons (mV 2) (mNil)) (mNil)) (m2 dIn (mV 2) (mV 1)))
noncomputable def m_f_is_rod : MS := (mIfS (mOr (mNot (mT (m1 (dIs .tuple) (mV 0)))) (mB (m2 dNe (mA dLen (mCons (mV 0) mNil)) (mC (.int 2))))) (mRet (mC (.bl false))) (mNx)).sq (mRet (mAndV (mA dAll (mCons (c_f_is_rod_1) mNil)) (m2 dLt (m2 dIx (mV 0) (mC (.int 0))) (m2 dIx (mV 0) (mC (.int 1))))))
noncomputable def MF_f_is_rod : MFn := mFn 3 [.fz, .fz] false m_f_is_rod
theorem s_f_is_rod : FnScope (["thing", "names", "name"] : List PySem.Str) (["thing", "names"] : List PySem.Str) (d_f_is_rod).scope := ⟨rfl, rfl, rfl, by decide +kernel, rfl, by decide +kernel, by decide +kernel⟩
theorem w_f_is_rod {P : Program} {w : World} {K : Frag} {mg : PySem.Str → Option Value} {h : Heap} (y : Hy K mg h) : ∃ fd, FunD K (d_f_is_rod).name (d_f_is_rod).qual (d_f_is_rod).params (d_f_is_rod).body (d_f_is_rod).scope ((d_f_is_rod).dvs K) ((d_f_is_rod).kws K) (He.fAd K ("is_rod", none)) fd ∧ BnF K fd (["thing", "names"] : List PySem.Str) ∧ PySem.W.keepIn K (.ref (He.fAd K ("is_rod", none))) = true ∧ mg "is_rod" = some (.ref (He.fAd K ("is_rod", none))) ∧ ∀ base : Heap, FnG P w K mg base (CXn true P w) 2 (He.fAd K ("is_rod", none)) fd (["thing", "names"] : List PySem.Str) (SpG K (ct K) [.fz, .fz] false MF_f_is_rod) := by
  obtain ⟨fd_f_is_name, f_is_name_d, f_is_name_b, f_is_name_k, f_is_name_m, f_is_name_r⟩ := w_f_is_name (P := P) (w := w) y
  obtain ⟨fd, D⟩ := y.says.def_ 12
  refine ⟨fd, D, (bnF (D.bindsN fun _ _ _ _ _ _ us hl => match us, hl with | [_, _], _ => rfl)), D.kp, y.glo 26, fun base => fn_g (N := (["thing", "names", "name"] : List PySem.Str)) (ps := (["thing", "names"] : List PySem.Str)) (ks := [.fz, .fz]) (Γl := [.fz]) (Γ' := [.fz, .fz, .fz]) (ro := false) (b := m_f_is_rod) D s_f_is_rod fun X S cdv A outer s H E hX hK hc hge hro tk gd room po => ?_⟩
  obtain ⟨⟨SK, Sct, F0, H0, ios⟩, Sge, SW, gc, gb, Sro⟩ := S
  have hK1 : SK = K := hK; have hc1 : Sct = ct K := hc; clear hK hc; subst hc1; subst hK1; cases hge; cases hro; subst hX
  have hu := room.units
  have nd : (["thing", "names", "name"] : List PySem.Str).Nodup := by decide +kernel
  exact ss_cons (Γ1 := [.fz, .fz, .fz]) (s_if (t_w (w_or (t_not (t_tru (e_r (e_is (T := .tuple) (e_r (e_v (pv 0))) rfl (y.free 15) (y.free 22))) rfl)) (w_or1 (t_cmp (c_ne hu rfl) (e_cb (b_len rfl) (a_oneR (e_r (e_v (pv 0)))) (y.free 2)) (e_r (e_int)))))) (ss_one (s_ret (e_bl))) (ss_nil)) (ss_one (s_ret (e_and (e_cb (b_all rfl rfl) (a_oneR (e_r (e_o (o_lc (own := [("name", 2)]) (is := [2]) rfl nd (i_any (e_v (pv 0))) rfl (fun _ _ _ _ _ => g_name (i := 2) nd rfl (by first | exact Or.inl rfl | exact Or.inr rfl) (by first | exact Or.inr rfl | exact Or.inl rfl) ⟨_, rfl, by decide⟩) (fun _ _ _ _ _ => ts_nil) (fun _ _ _ _ _ => e_and (e_g (ks := [.fz]) (MF := MF_f_is_name) ⟨(f_is_name_r base).mono (k := 1) (by decide), gd, room⟩ f_is_name_m f_is_name_k f_is_name_b.d tk_no (.inl rfl) (a_cons (e_v (pv 2)) (a_nil)) rfl) (e_one (e_cmp (c_in hu rfl) (e_v (pv 2)) (e_r (e_v (pv 1)))))))))) (y.free 16)) (e_one (e_cmp (c_lt hu rfl) (e_ix (e_v (pv 0)) (e_int)) (e_r (e_ix (e_v (pv 0)) (e_int))))))))
end Law
namespace Law
open PySem PySem.Spec PyProof.Rows L2 G
/-! ### odd_rod -/
noncomputable def b_f_odd_rod_1 : MS := (mIfS (mOr (mNot (mT (mCkd 2 0 2 (fun ds _ => ds) MF_f_is_rod (mCons (mV 4) (mCons (mV 1) (mNil))) (mNil)))) (mB (m2 dLe (mV 4) (mV 2)))) (mRet (mV 3)) (mNx)).sq (mSet 2 (mV 4))
noncomputable def l_f_odd_rod_1 : MS := mFor (mEn (mCons (mV 0) (mNil))) (gT 2 (gC (gN 3) (gC (gN 4) (gE)))) b_f_odd_rod_1
noncomputable def m_f_odd_rod : MS := (mSet 2 (mTup (mCons (mC (.str "")) (mCons (mC (.str "")) (mNil))))).sq ((l_f_odd_rod_1).sq (mRet (mC .non)))
noncomputable def MF_f_odd_rod : MFn := mFn 5 [.fz, .fz] false m_f_odd_rod
theorem s_f_odd_rod : FnScope (["rods", "names", "last", "place", "rod"] : List PySem.Str) (["rods", "names"] : List PySem.Str) (d_f_odd_rod).scope := ⟨rfl, rfl, rfl, by decide +kernel, rfl, by decide +kernel, by decide +kernel⟩
theorem w_f_odd_rod {P : Program} {w : World} {K : Frag} {mg : PySem.Str → Option Value} {h : Heap} (y : Hy K mg h) : ∃ fd, FunD K (d_f_odd_rod).name (d_f_odd_rod).qual (d_f_odd_rod).params (d_f_odd_rod).body (d_f_odd_rod).scope ((d_f_odd_rod).dvs K) ((d_f_odd_rod).kws K) (He.fAd K ("odd_rod", none)) fd ∧ BnF K fd (["rods", "names"] : List PySem.Str) ∧ PySem.W.keepIn K (.ref (He.fAd K ("odd_rod", none))) = true ∧ mg "odd_rod" = some (.ref (He.fAd K ("odd_rod", none))) ∧ ∀ base : Heap, FnG P w K mg base (CXn true P w) 3 (He.fAd K ("odd_rod", none)) fd (["rods", "names"] : List PySem.Str) (SpG K (ct K) [.fz, .fz] false MF_f_odd_rod) := by
  obtain ⟨fd_f_is_rod, f_is_rod_d, f_is_rod_b, f_is_rod_k, f_is_rod_m, f_is_rod_r⟩ := w_f_is_rod (P := P) (w := w) y
  obtain ⟨fd, D⟩ := y.says.def_ 13
  refine ⟨fd, D, (bnF (D.bindsN fun _ _ _ _ _ _ us hl => match us, hl with | [_, _], _ => rfl)), D.kp, y.glo 27, fun base => fn_g (N := (["rods", "names", "last", "place", "rod"] : List PySem.Str)) (ps := (["rods", "names"] : List PySem.Str)) (ks := [.fz, .fz]) (Γl := [.fz, .fz, .fz]) (Γ' := [.fz, .fz, .fz, .fz, .fz]) (ro := false) (b := m_f_odd_rod) D s_f_odd_rod fun X S cdv A outer s H E hX hK hc hge hro tk gd room po => ?_⟩
  obtain ⟨⟨SK, Sct, F0, H0, ios⟩, Sge, SW, gc, gb, Sro⟩ := S
  have hK1 : SK = K := hK; have hc1 : Sct = ct K := hc; clear hK hc; subst hc1; subst hK1; cases hge; cases hro; subst hX
  have hu := room.units
  have nd : (["rods", "names", "last", "place", "rod"] : List PySem.Str).Nodup := by decide +kernel
  exact ss_cons (Γ1 := [.fz, .fz, .fz, .fz, .fz]) (s_set (i := 2) (e_tup (a_cons (e_str) (a_cons (e_str) (a_nil)))) nd rfl (by first | exact Or.inl rfl | exact Or.inr rfl) (by first | exact Or.inr rfl | exact Or.inl rfl) ⟨_, rfl, by decide⟩) (ss_cons (Γ1 := [.fz, .fz, .fz, .fz, .fz]) (s_for (Γ1 := [.fz, .fz, .fz, .fz, .fz]) (is := [3, 4]) po rfl (i_en (a_cons (e_v (pv 0)) (a_nil)) (y.free 24)) (g_tup rfl (g_cons (g_name (i := 3) nd rfl (by first | exact Or.inl rfl | exact Or.inr rfl) (by first | exact Or.inr rfl | exact Or.inl rfl) ⟨_, rfl, by decide⟩) (g_cons (g_name (i := 4) nd rfl (by first | exact Or.inl rfl | exact Or.inr rfl) (by first | exact Or.inr rfl | exact Or.inl rfl) ⟨_, rfl, by decide⟩) (g_nil)))) (ss_cons (Γ1 := [.fz, .fz, .fz, .fz, .fz]) (s_if (t_w (w_or (t_not (t_tru (e_r (e_g (ks := [.fz, .fz]) (MF := MF_f_is_rod) ⟨(f_is_rod_r base).mono (k := 2) (by decide), gd, room⟩ f_is_rod_m f_is_rod_k f_is_rod_b.d tk (.inl rfl) (a_cons (e_v (pv 4)) (a_cons (e_v (pv 1)) (a_nil))) rfl)) rfl)) (w_or1 (t_cmp (c_le hu rfl) (e_v (pv 4)) (e_r (e_v (pv 2))))))) (ss_one (s_ret (e_v (pv 3)))) (ss_nil)) (ss_one (s_set (i := 2) (e_v (pv 4)) nd rfl (by first | exact Or.inl rfl | exact Or.inr rfl) (by first | exact Or.inr rfl | exact Or.inl rfl) ⟨_, rfl, by decide⟩)))) (ss_one (s_ret (e_non))))
end Law
namespace Law
open PySem PySem.Spec PyProof.Rows L2 G
/-! ### Moor.__init__ -/
noncomputable def c_f_Moor_init_1 : M D := mLc [4, 5] (mIt (mV 1)) (gT 2 (gC (gN 4) (gC (gN 5) (gE)))) (mYes) (mV 4)
noncomputable def m_f_Moor_init : MS := (mIfS (mOr (mNot (mT (m1 (dIs .tuple) (mV 1)))) (mB (m2 dGt (mA dLen (mCons (mV 1) mNil)) (mC (.int (12)))))) (mRsF 1 (mC .non)) (mNx)).sq ((mSet 3 (mCkd 1 0 1 (fun ds _ => ds) MF_f_odd_gauge (mCons (mV 1) (mNil)) (mNil))).sq ((mIfS (mB (m2 (dIsN true) (mV 3) (mC .non))) (mRsF 1 (mV 3)) (mNx)).sq ((mIfS (mNot (mT (m1 (dIs .tuple) (mV 2)))) (mRsF 2 (mC .non)) (mNx)).sq ((mSet 3 (mCkd 2 0 2 (fun ds _ => ds) MF_f_odd_rod (mCons (mV 2) (mCons (c_f_Moor_init_1) (mNil))) (mNil))).sq ((mIfS (mB (m2 (dIsN true) (mV 3) (mC .non))) (mRsF 2 (mV 3)) (mNx)).sq ((mFl 0 0 0 (mV 1)).sq (mFl 0 0 1 (mV 2))))))))
noncomputable def MF_f_Moor_init : MFn := mFn 6 [.io, .fz, .fz] false m_f_Moor_init
theorem s_f_Moor_init : FnScope (["self", "gauges", "rods", "place", "name", "top"] : List PySem.Str) (["self", "gauges", "rods"] : List PySem.Str) (d_f_Moor_init).scope := ⟨rfl, rfl, rfl, by decide +kernel, rfl, by decide +kernel, by decide +kernel⟩
theorem w_f_Moor_init {P : Program} {w : World} {K : Frag} {mg : PySem.Str → Option Value} {h : Heap} (y : Hy K mg h) : ∃ fd, FunD K (d_f_Moor_init).name (d_f_Moor_init).qual (d_f_Moor_init).params (d_f_Moor_init).body (d_f_Moor_init).scope ((d_f_Moor_init).dvs K) ((d_f_Moor_init).kws K) (He.fAd K ("Moor", some "__init__")) fd ∧ True ∧ PySem.W.keepIn K (.ref (He.fAd K ("Moor", some "__init__"))) = true ∧ ∀ base : Heap, FnG P w K mg base (CXn true P w) 5 (He.fAd K ("Moor", some "__init__")) fd (["self", "gauges", "rods"] : List PySem.Str) (SpG K (ct K) [.io, .fz, .fz] false MF_f_Moor_init) := by
  obtain ⟨fd_f_odd_gauge, f_odd_gauge_d, f_odd_gauge_b, f_odd_gauge_k, f_odd_gauge_m, f_odd_gauge_r⟩ := w_f_odd_gauge (P := P) (w := w) y
  obtain ⟨fd_f_odd_rod, f_odd_rod_d, f_odd_rod_b, f_odd_rod_k, f_odd_rod_m, f_odd_rod_r⟩ := w_f_odd_rod (P := P) (w := w) y
  obtain ⟨fd, D⟩ := y.says.def_ 14
  refine ⟨fd, D, trivial, D.kp, fun base => fn_g (N := (["self", "gauges", "rods", "place", "name", "top"] : List PySem.Str)) (ps := (["self", "gauges", "rods"] : List PySem.Str)) (ks := [.io, .fz, .fz]) (Γl := [.fz, .fz, .fz]) (Γ' := [.io, .fz, .fz, .fz, .fz, .fz]) (ro := false) (b := m_f_Moor_init) D s_f_Moor_init fun X S cdv A outer s H E hX hK hc hge hro tk gd room po => ?_⟩
  obtain ⟨⟨SK, Sct, F0, H0, ios⟩, Sge, SW, gc, gb, Sro⟩ := S
  have hK1 : SK = K := hK; have hc1 : Sct = ct K := hc; clear hK hc; subst hc1; subst hK1; cases hge; cases hro; subst hX
  have hu := room.units
  have nd : (["self", "gauges", "rods", "place", "name", "top"] : List PySem.Str).Nodup := by decide +kernel
  exact ss_cons (Γ1 := [.io, .fz, .fz, .fz, .fz, .fz]) (s_if (t_w (w_or (t_not (t_tru (e_r (e_is (T := .tuple) (e_r (e_v (pv 1))) rfl (y.free 15) (y.free 22))) rfl)) (w_or1 (t_cmp (c_gt hu rfl) (e_cb (b_len rfl) (a_oneR (e_r (e_v (pv 1)))) (y.free 2)) (e_r (e_gint (y.int_ 28))))))) (ss_one (s_raiseF (c := 1) (exf_NoGauges y).of rfl tk (.inl rfl) gd (room.mono (by decide)) (y.glo 29) rfl (e_non))) (ss_nil)) (ss_cons (Γ1 := [.io, .fz, .fz, .fz, .fz, .fz]) (s_set (i := 3) (e_g (ks := [.fz]) (MF := MF_f_odd_gauge) ⟨(f_odd_gauge_r base).mono (k := 4) (by decide), gd, room⟩ f_odd_gauge_m f_odd_gauge_k f_odd_gauge_b.d tk (.inl rfl) (a_cons (e_v (pv 1)) (a_nil)) rfl) nd rfl (by first | exact Or.inl rfl | exact Or.inr rfl) (by first | exact Or.inr rfl | exact Or.inl rfl) ⟨_, rfl, by decide⟩) (ss_cons (Γ1 := [.io, .fz, .fz, .fz, .fz, .fz]) (s_if (t_cmp (c_isnot hu rfl) (e_v (pv 3)) (e_r (e_non))) (ss_one (s_raiseF (c := 1) (exf_NoGauges y).of rfl tk (.inl rfl) gd (room.mono (by decide)) (y.glo 29) rfl (e_v (pv 3)))) (ss_nil)) (ss_cons (Γ1 := [.io, .fz, .fz, .fz, .fz, .fz]) (s_if (t_not (t_tru (e_r (e_is (T := .tuple) (e_r (e_v (pv 2))) rfl (y.free 15) (y.free 22))) rfl)) (ss_one (s_raiseF (c := 2) (exf_NoRods y).of rfl tk (.inl rfl) gd (room.mono (by decide)) (y.glo 30) rfl (e_non))) (ss_nil)) (ss_cons (Γ1 := [.io, .fz, .fz, .fz, .fz, .fz]) (s_set (i := 3) (e_g (ks := [.fz, .fz]) (MF := MF_f_odd_rod) ⟨(f_odd_rod_r base).mono (k := 4) (by decide), gd, room⟩ f_odd_rod_m f_odd_rod_k f_odd_rod_b.d tk (.inl rfl) (a_cons (e_v (pv 2)) (a_cons (e_o (o_lc (own := [("name", 4), ("top", 5)]) (is := [4, 5]) rfl nd (i_any (e_v (pv 1))) rfl (fun _ _ _ _ _ => g_tup rfl (g_cons (g_name (i := 4) nd rfl (by first | exact Or.inl rfl | exact Or.inr rfl) (by first | exact Or.inr rfl | exact Or.inl rfl) ⟨_, rfl, by decide⟩) (g_cons (g_name (i := 5) nd rfl (by first | exact Or.inl rfl | exact Or.inr rfl) (by first | exact Or.inr rfl | exact Or.inl rfl) ⟨_, rfl, by decide⟩) (g_nil)))) (fun _ _ _ _ _ => ts_nil) (fun _ _ _ _ _ => e_v (pv 4)))) (a_nil))) rfl) nd rfl (by first | exact Or.inl rfl | exact Or.inr rfl) (by first | exact Or.inr rfl | exact Or.inl rfl) ⟨_, rfl, by decide⟩) (ss_cons (Γ1 := [.io, .fz, .fz, .fz, .fz, .fz]) (s_if (t_cmp (c_isnot hu rfl) (e_v (pv 3)) (e_r (e_non))) (ss_one (s_raiseF (c := 2) (exf_NoRods y).of rfl tk (.inl rfl) gd (room.mono (by decide)) (y.glo 30) rfl (e_v (pv 3)))) (ss_nil)) (ss_cons (Γ1 := [.io, .fz, .fz, .fz, .fz, .fz]) (s_fl (c := 0) (j := 0) (pv 0) (e_v (pv 1)) rfl (by decide) rfl (y.cls_ 31) (y.noat 32) rfl ndc_0 lnc_0) (ss_one (s_fl (c := 0) (j := 1) (pv 0) (e_v (pv 2)) rfl (by decide) rfl (y.cls_ 31) (y.noat 33) rfl ndc_0 lnc_0))))))))
end Law
namespace Law
open PySem PySem.Spec PyProof.Rows L2 G
/-! ### moor_of -/
noncomputable def l_f_moor_of_1 : MS := mTryH caught_NoGauges_NoRods (mRet (mMk 0 1 1 2 gD_f_Moor_init_b1_rods MF_f_Moor_init (mCons (mA dTupOf (mCons (mV 0) mNil)) (mNil)) (mCons (mA dTupOf (mCons (mV 1) mNil)) (mNil)))) (mRet (mC .non))
noncomputable def m_f_moor_of : MS := l_f_moor_of_1
noncomputable def MF_f_moor_of : MFn := mFn 2 [.io, .io] false m_f_moor_of
theorem s_f_moor_of : FnScope (["gauges", "rods"] : List PySem.Str) (["gauges", "rods"] : List PySem.Str) (d_f_moor_of).scope := ⟨rfl, rfl, rfl, by decide +kernel, rfl, by decide +kernel, by decide +kernel⟩
theorem w_f_moor_of {P : Program} {w : World} {K : Frag} {mg : PySem.Str → Option Value} {h : Heap} (y : Hy K mg h) : ∃ fd, FunD K (d_f_moor_of).name (d_f_moor_of).qual (d_f_moor_of).params (d_f_moor_of).body (d_f_moor_of).scope ((d_f_moor_of).dvs K) ((d_f_moor_of).kws K) (He.fAd K ("moor_of", none)) fd ∧ BnF K fd (["gauges", "rods"] : List PySem.Str) ∧ PySem.W.keepIn K (.ref (He.fAd K ("moor_of", none))) = true ∧ mg "moor_of" = some (.ref (He.fAd K ("moor_of", none))) ∧ ∀ base : Heap, FnG P w K mg base (CXn false P w) 7 (He.fAd K ("moor_of", none)) fd (["gauges", "rods"] : List PySem.Str) (SpG K (ct K) [.io, .io] false MF_f_moor_of) := by
  obtain ⟨fd_f_Moor_init, f_Moor_init_d, f_Moor_init_b, f_Moor_init_k, f_Moor_init_r⟩ := w_f_Moor_init (P := P) (w := w) y
  have f_Moor_init_b1_rods := bn_f_Moor_init_b1_rods y f_Moor_init_d
  obtain ⟨fd, D⟩ := y.says.def_ 15
  refine ⟨fd, D, (bnF (D.bindsN fun _ _ _ _ _ _ us hl => match us, hl with | [_, _], _ => rfl)), D.kp, y.glo 36, fun base => fn_g (N := (["gauges", "rods"] : List PySem.Str)) (ps := (["gauges", "rods"] : List PySem.Str)) (ks := [.io, .io]) (Γl := []) (Γ' := [.io, .io]) (ro := false) (b := m_f_moor_of) D s_f_moor_of fun X S cdv A outer s H E hX hK hc hge hro tk gd room po => ?_⟩
  obtain ⟨⟨SK, Sct, F0, H0, ios⟩, Sge, SW, gc, gb, Sro⟩ := S
  have hK1 : SK = K := hK; have hc1 : Sct = ct K := hc; clear hK hc; subst hc1; subst hK1; cases hge; cases hro; subst hX
  have hu := room.units
  have nd : (["gauges", "rods"] : List PySem.Str).Nodup := by decide +kernel
  exact ss_one (s_tryH (Γe := [.io, .io]) (caught := caught_NoGauges_NoRods) rfl rfl (tst_two ⟨rfl, by decide, .inl (y.glo 29)⟩ ⟨rfl, by decide, .inl (y.glo 30)⟩) (L2H.passesAt_of rfl) tk (.inl rfl) (exT_NoGauges_NoRods y) (fun _ _ _ tk po => ss_one (s_ret (e_o (o_mkk (kn := ["rods"]) (c := 0) (ks := [.fz, .fz]) (MF := MF_f_Moor_init) ⟨y.mkr 34, (f_Moor_init_r base).mono (k := 5) (by decide), gd, room⟩ (y.glo 35) f_Moor_init_b1_rods tk (.inr ⟨[], _, rfl, rfl⟩) (a_cons (e_ct (b_tuple rfl) (a_oneR (r_v (pv 0))) (y.free 22)) (a_nil)) (k_cons (e_ct (b_tuple rfl) (a_oneR (r_v (pv 1))) (y.free 22)) (k_nil)) rfl)))) (fun _ _ _ tk hot => ss_one (s_ret (e_non))))
end Law
namespace Law
open PySem PySem.Spec PyProof.Rows L2 G
/-! ### figured -/
noncomputable def c_f_figured_1 : M D := mLc [1] (mIt (mV 0)) (gN 1) (mYes) (m2 dIn (mV 1) (mC (.str "0123456789")))
noncomputable def m_f_figured : MS := (mIfS (mOr (mB (m2 dEq (mV 0) (mC (.str "")))) (mNot (mT (mA dAll (mCons (c_f_figured_1) mNil))))) (mRet (mC .non)) (mNx)).sq ((mIfS (mAnd (mB (m2 dEq (m2 dIx (mV 0) (mC (.int 0))) (mC (.str "0")))) (mB (m2 dNe (mV 0) (mC (.str "0"))))) (mRet (mC .non)) (mNx)).sq (mRet (mA dIntX (mCons (mV 0) mNil))))
noncomputable def MF_f_figured : MFn := mFn 2 [.fz] false m_f_figured
theorem s_f_figured : FnScope (["word", "sign"] : List PySem.Str) (["word"] : List PySem.Str) (d_f_figured).scope := ⟨rfl, rfl, rfl, by decide +kernel, rfl, by decide +kernel, by decide +kernel⟩
theorem w_f_figured {P : Program} {w : World} {K : Frag} {mg : PySem.Str → Option Value} {h : Heap} (y : Hy K mg h) : ∃ fd, FunD K (d_f_figured).name (d_f_figured).qual (d_f_figured).params (d_f_figured).body (d_f_figured).scope ((d_f_figured).dvs K) ((d_f_figured).kws K) (He.fAd K ("figured", none)) fd ∧ BnF K fd (["word"] : List PySem.Str) ∧ PySem.W.keepIn K (.ref (He.fAd K ("figured", none))) = true ∧ mg "figured" = some (.ref (He.fAd K ("figured", none))) ∧ ∀ base : Heap, FnG P w K mg base (CXn false P w) 1 (He.fAd K ("figured", none)) fd (["word"] : List PySem.Str) (SpG K (ct K) [.fz] false MF_f_figured) := by
  obtain ⟨fd, D⟩ := y.says.def_ 16
  refine ⟨fd, D, (bnF (D.bindsN fun _ _ _ _ _ _ us hl => match us, hl with | [_], _ => rfl)), D.kp, y.glo 38, fun base => fn_g (N := (["word", "sign"] : List PySem.Str)) (ps := (["word"] : List PySem.Str)) (ks := [.fz]) (Γl := [.fz]) (Γ' := [.fz, .fz]) (ro := false) (b := m_f_figured) D s_f_figured fun X S cdv A outer s H E hX hK hc hge hro tk gd room po => ?_⟩
  obtain ⟨⟨SK, Sct, F0, H0, ios⟩, Sge, SW, gc, gb, Sro⟩ := S
  have hK1 : SK = K := hK; have hc1 : Sct = ct K := hc; clear hK hc; subst hc1; subst hK1; cases hge; cases hro; subst hX
  have hu := room.units
  have nd : (["word", "sign"] : List PySem.Str).Nodup := by decide +kernel
  exact ss_cons (Γ1 := [.fz, .fz]) (s_if (t_w (w_or (t_cmp (c_eq hu rfl) (e_v (pv 0)) (e_r (e_str))) (w_or1 (t_not (t_tru (e_r (e_cb (b_all rfl rfl) (a_oneR (e_r (e_o (o_lc (own := [("sign", 1)]) (is := [1]) rfl nd (i_any (e_v (pv 0))) rfl (fun _ _ _ _ _ => g_name (i := 1) nd rfl (by first | exact Or.inl rfl | exact Or.inr rfl) (by first | exact Or.inr rfl | exact Or.inl rfl) ⟨_, rfl, by decide⟩) (fun _ _ _ _ _ => ts_nil) (fun _ _ _ _ _ => e_cmp (c_in hu rfl) (e_v (pv 1)) (e_r (e_gstr (y.str_ 37)))))))) (y.free 16))) rfl))))) (ss_one (s_ret (e_non))) (ss_nil)) (ss_cons (Γ1 := [.fz, .fz]) (s_if (t_w (w_and (t_cmp (c_eq hu rfl) (e_ix (e_v (pv 0)) (e_int)) (e_r (e_str))) (w_and1 (t_cmp (c_ne hu rfl) (e_v (pv 0)) (e_r (e_str)))))) (ss_one (s_ret (e_non))) (ss_nil)) (ss_one (s_ret (e_ct b_intX (a_oneR (e_r (e_v (pv 0)))) (y.free 7)))))
end Law
namespace Law
open PySem PySem.Spec PyProof.Rows L2 G
/-! ### read_moor -/
noncomputable def b_f_read_moor_1 : MS := (mAsg (gStar 6 7) (mSpl (mV 5) (mC (.str " ")))).sq ((mIfS (mOr (mB (m2 dNe (mA dLen (mCons (mV 7) mNil)) (mC (.int 2)))) (mOr (mB (m2 dNin (mV 6) (mTup (mCons (mC (.str "gauge")) (mCons (mC (.str "rod")) (mNil)))))) (mAnd (mB (m2 dEq (mV 6) (mC (.str "gauge")))) (mB (m2L dNe 3 (mLst (mNil))))))) (mRsF 3 (mV 4)) (mNx)).sq ((mIfS (mB (m2 dEq (mV 6) (mC (.str "gauge")))) (mExp (mMl 2 hAppend (mCons (mTup (mCons (m2 dIx (mV 7) (mC (.int 0))) (mCons (mCkd 1 0 1 (fun ds _ => ds) MF_f_figured (mCons (m2 dIx (mV 7) (mC (.int 1))) (mNil)) (mNil)) (mNil)))) (mNil)))) (mExp (mMl 3 hAppend (mCons (mTup (mCons (m2 dIx (mV 7) (mC (.int 0))) (mCons (m2 dIx (mV 7) (mC (.int 1))) (mNil)))) (mNil))))).sq ((mSet 1 (mCallH [.sl 2, .sl 3] MF_f_moor_of ((mV 2).bind fun _ => (mV 3).bind fun _ => mNil))).sq (mIfS (mB (m2 (dIsN false) (mV 1) (mC .non))) (mRsF 3 (mV 4)) (mNx)))))
noncomputable def l_f_read_moor_1 : MS := mFor (mEn (mCons (mIf (mT (mV 0)) (mSpl (mV 0) (mC (.str "\n"))) (mLst (mNil))) (mNil))) (gT 2 (gC (gN 4) (gC (gN 5) (gE)))) b_f_read_moor_1
noncomputable def m_f_read_moor : MS := (mIfS (mNot (mT (m1 (dIs .str) (mV 0)))) (mRsF 3 (mC (.int 0))) (mNx)).sq ((mPar [1, 2, 3] (mCons (mMk 0 0 0 2 gD_f_Moor_init_b0 MF_f_Moor_init (mNil) (mNil)) (mCons (mLst (mNil)) (mCons (mLst (mNil)) (mNil))))).sq ((l_f_read_moor_1).sq (mRet (mV 1))))
noncomputable def MF_f_read_moor : MFn := mFn 8 [.fz] false m_f_read_moor
theorem s_f_read_moor : FnScope (["text", "told", "gauges", "rods", "number", "row", "word", "rest"] : List PySem.Str) (["text"] : List PySem.Str) (d_f_read_moor).scope := ⟨rfl, rfl, rfl, by decide +kernel, rfl, by decide +kernel, by decide +kernel⟩
theorem w_f_read_moor {P : Program} {w : World} {K : Frag} {mg : PySem.Str → Option Value} {h : Heap} (y : Hy K mg h) : ∃ fd, FunD K (d_f_read_moor).name (d_f_read_moor).qual (d_f_read_moor).params (d_f_read_moor).body (d_f_read_moor).scope ((d_f_read_moor).dvs K) ((d_f_read_moor).kws K) (He.fAd K ("read_moor", none)) fd ∧ BnF K fd (["text"] : List PySem.Str) ∧ PySem.W.keepIn K (.ref (He.fAd K ("read_moor", none))) = true ∧ mg "read_moor" = some (.ref (He.fAd K ("read_moor", none))) ∧ ∀ base : Heap, FnG P w K mg base (CXn false P w) 8 (He.fAd K ("read_moor", none)) fd (["text"] : List PySem.Str) (SpG K (ct K) [.fz] false MF_f_read_moor) := by
  obtain ⟨fd_f_Moor_init, f_Moor_init_d, f_Moor_init_b, f_Moor_init_k, f_Moor_init_r⟩ := w_f_Moor_init (P := P) (w := w) y
  have f_Moor_init_b1_rods := bn_f_Moor_init_b1_rods y f_Moor_init_d
  have f_Moor_init_b0 := bn_f_Moor_init_b0 y f_Moor_init_d
  obtain ⟨fd_f_figured, f_figured_d, f_figured_b, f_figured_k, f_figured_m, f_figured_r⟩ := w_f_figured (P := P) (w := w) y
  obtain ⟨fd_f_moor_of, f_moor_of_d, f_moor_of_b, f_moor_of_k, f_moor_of_m, f_moor_of_r⟩ := w_f_moor_of (P := P) (w := w) y
  obtain ⟨fd, D⟩ := y.says.def_ 17
  refine ⟨fd, D, (bnF (D.bindsN fun _ _ _ _ _ _ us hl => match us, hl with | [_], _ => rfl)), D.kp, y.glo 40, fun base => fn_g (N := (["text", "told", "gauges", "rods", "number", "row", "word", "rest"] : List PySem.Str)) (ps := (["text"] : List PySem.Str)) (ks := [.fz]) (Γl := [.fz, .ow, .ow, .fz, .fz, .fz, .fz]) (Γ' := [.fz, .fz, .ow, .ow, .fz, .fz, .fz, .fz]) (ro := false) (b := m_f_read_moor) D s_f_read_moor fun X S cdv A outer s H E hX hK hc hge hro tk gd room po => ?_⟩
  obtain ⟨⟨SK, Sct, F0, H0, ios⟩, Sge, SW, gc, gb, Sro⟩ := S
  have hK1 : SK = K := hK; have hc1 : Sct = ct K := hc; clear hK hc; subst hc1; subst hK1; cases hge; cases hro; subst hX
  have hu := room.units
  have nd : (["text", "told", "gauges", "rods", "number", "row", "word", "rest"] : List PySem.Str).Nodup := by decide +kernel
  exact ss_cons (Γ1 := [.fz, .fz, .ow, .ow, .fz, .fz, .fz, .fz]) (s_if (t_not (t_tru (e_r (e_is (T := .str) (e_r (e_v (pv 0))) rfl (y.free 15) (y.free 6))) rfl)) (ss_one (s_raiseF (c := 3) (exf_NoText y).of rfl tk (.inl rfl) gd (room.mono (by decide)) (y.glo 39) rfl (e_int))) (ss_nil)) (ss_cons (Γ1 := [.fz, .fz, .ow, .ow, .fz, .fz, .fz, .fz]) (s_par3 (i := 1) (j := 2) (k := 3) (ba := false) (bb := true) (bc := true) rfl nd (v_fz (e_o (o_mk0 (c := 0) (ks := [.fz, .fz]) (MF := MF_f_Moor_init) ⟨y.mkr 34, (f_Moor_init_r base).dn.mono (k := 6) (by decide), gd, room⟩ (y.glo 35) f_Moor_init_b0 tk (.inl rfl) rfl)) (v_ow (o_lst (a_nil)) (v_ow (o_lst (a_nil)) (v_nil)))) rfl rfl rfl (by decide) (by decide) (by decide) rfl rfl rfl) (ss_cons (Γ1 := [.fz, .fz, .ow, .ow, .fz, .fz, .fz, .fz]) (s_for (Γ1 := [.fz, .fz, .ow, .ow, .fz, .fz, .fz, .fz]) (is := [4, 5]) po rfl (i_en (a_cons (e_if (t_tru (e_r (e_v (pv 0))) rfl) (e_split (e_v (pv 0)) (e_str)) (e_lst (a_nil))) (a_nil)) (y.free 24)) (g_tup rfl (g_cons (g_name (i := 4) nd rfl (by first | exact Or.inl rfl | exact Or.inr rfl) (by first | exact Or.inr rfl | exact Or.inl rfl) ⟨_, rfl, by decide⟩) (g_cons (g_name (i := 5) nd rfl (by first | exact Or.inl rfl | exact Or.inr rfl) (by first | exact Or.inr rfl | exact Or.inl rfl) ⟨_, rfl, by decide⟩) (g_nil)))) (ss_cons (Γ1 := [.fz, .fz, .ow, .ow, .fz, .fz, .fz, .fz]) (s_asgW (e_split (e_v (pv 5)) (e_str)) (gw_star (i := 6) (j := 7) rfl nd rfl rfl (by first | exact Or.inl rfl | exact Or.inr rfl) (by first | exact Or.inl rfl | exact Or.inr rfl) (by first | exact Or.inr rfl | exact Or.inl rfl) (by first | exact Or.inr rfl | exact Or.inl rfl) ⟨_, rfl, by decide⟩ ⟨_, rfl, by decide⟩)) (ss_cons (Γ1 := [.fz, .fz, .ow, .ow, .fz, .fz, .fz, .fz]) (s_if (t_w (w_or (t_cmp (c_ne hu rfl) (e_cb (b_len rfl) (a_oneR (e_r (e_v (pv 7)))) (y.free 2)) (e_r (e_int))) (w_or (t_cmp (c_nin hu rfl) (e_v (pv 6)) (e_r (e_tup (a_cons (e_str) (a_cons (e_str) (a_nil)))))) (w_or1 (t_w (w_and (t_cmp (c_eq hu rfl) (e_v (pv 6)) (e_r (e_str))) (w_and1 (t_cmpL (c_ne hu rfl) (pv 3) (e_r (e_lst (a_nil))))))))))) (ss_one (s_raiseF (c := 3) (exf_NoText y).of rfl tk (.inl rfl) gd (room.mono (by decide)) (y.glo 39) rfl (e_v (pv 4)))) (ss_nil)) (ss_cons (Γ1 := [.fz, .fz, .ow, .ow, .fz, .fz, .fz, .fz]) (s_if (t_cmp (c_eq hu rfl) (e_v (pv 6)) (e_r (e_str))) (ss_one (s_exp (e_mt F.slot_list_append F.type_list_append mt_append mk_append (pv 2) (a_cons (e_tup (a_cons (e_ix (e_v (pv 7)) (e_int)) (a_cons (e_g (ks := [.fz]) (MF := MF_f_figured) ⟨(f_figured_r base).mono (k := 7) (by decide), gd, room⟩ f_figured_m f_figured_k f_figured_b.d tk (.inl rfl) (a_cons (e_ix (e_v (pv 7)) (e_int)) (a_nil)) rfl) (a_nil)))) (a_nil)) rfl (by decide) rfl))) (ss_one (s_exp (e_mt F.slot_list_append F.type_list_append mt_append mk_append (pv 3) (a_cons (e_tup (a_cons (e_ix (e_v (pv 7)) (e_int)) (a_cons (e_ix (e_v (pv 7)) (e_int)) (a_nil)))) (a_nil)) rfl (by decide) rfl)))) (ss_cons (Γ1 := [.fz, .fz, .ow, .ow, .fz, .fz, .fz, .fz]) (s_set (i := 1) (e_h (sh := [.sl 2, .sl 3]) (ks := [.io, .io]) (MF := MF_f_moor_of) ⟨(f_moor_of_r base).mono (k := 7) (by decide), gd, room⟩ f_moor_of_m f_moor_of_k f_moor_of_b tk (.inl rfl) (h_sl (pv 2) (h_sl (pv 3) (h_nil)))) nd rfl (by first | exact Or.inl rfl | exact Or.inr rfl) (by first | exact Or.inr rfl | exact Or.inl rfl) ⟨_, rfl, by decide⟩) (ss_one (s_if (t_cmp (c_is hu rfl) (e_v (pv 1)) (e_r (e_non))) (ss_one (s_raiseF (c := 3) (exf_NoText y).of rfl tk (.inl rfl) gd (room.mono (by decide)) (y.glo 39) rfl (e_v (pv 4)))) (ss_nil)))))))) (ss_one (s_ret (e_v (pv 1))))))
end Law
namespace Law
open PySem PySem.Spec PyProof.Rows L2 G
/-! ### Moor.__str__ -/
noncomputable def c_f_Moor_str_1 : M D := mLc [3, 4] (mIt (m1 (dAt 1 0) (mV 0))) (gT 2 (gC (gN 3) (gC (gN 4) (gE)))) (mYes) (mJn [mC (.str "rod "), m1 dFm (mV 3), mC (.str " "), m1 dFm (mV 4)])
noncomputable def c_f_Moor_str_2 : M D := mLc [1, 2] (mIt (m1 (dAt 0 0) (mV 0))) (gT 2 (gC (gN 1) (gC (gN 2) (gE)))) (mYes) (mJn [mC (.str "gauge "), m1 dFm (mV 1), mC (.str " "), m1 dFm (mV 2)])
noncomputable def m_f_Moor_str : MS := mRet (mJo (mC (.str "\n")) (m2 dAdd (c_f_Moor_str_2) (c_f_Moor_str_1)))
noncomputable def MF_f_Moor_str : MFn := mFn 5 [.fz] false m_f_Moor_str
theorem s_f_Moor_str : FnScope (["self", "name", "top", "one", "other"] : List PySem.Str) (["self"] : List PySem.Str) (d_f_Moor_str).scope := ⟨rfl, rfl, rfl, by decide +kernel, rfl, by decide +kernel, by decide +kernel⟩
theorem w_f_Moor_str {P : Program} {w : World} {K : Frag} {mg : PySem.Str → Option Value} {h : Heap} (y : Hy K mg h) : ∃ fd, FunD K (d_f_Moor_str).name (d_f_Moor_str).qual (d_f_Moor_str).params (d_f_Moor_str).body (d_f_Moor_str).scope ((d_f_Moor_str).dvs K) ((d_f_Moor_str).kws K) (He.fAd K ("Moor", some "__str__")) fd ∧ BnF K fd (["self"] : List PySem.Str) ∧ PySem.W.keepIn K (.ref (He.fAd K ("Moor", some "__str__"))) = true ∧ ∀ base : Heap, FnG P w K mg base (CXn false P w) 1 (He.fAd K ("Moor", some "__str__")) fd (["self"] : List PySem.Str) (SpG K (ct K) [.fz] false MF_f_Moor_str) := by
  obtain ⟨fd, D⟩ := y.says.def_ 18
  refine ⟨fd, D, (bnF (D.bindsN fun _ _ _ _ _ _ us hl => match us, hl with | [_], _ => rfl)), D.kp, fun base => fn_g (N := (["self", "name", "top", "one", "other"] : List PySem.Str)) (ps := (["self"] : List PySem.Str)) (ks := [.fz]) (Γl := [.fz, .fz, .fz, .fz]) (Γ' := [.fz, .fz, .fz, .fz, .fz]) (ro := false) (b := m_f_Moor_str) D s_f_Moor_str fun X S cdv A outer s H E hX hK hc hge hro tk gd room po => ?_⟩
  obtain ⟨⟨SK, Sct, F0, H0, ios⟩, Sge, SW, gc, gb, Sro⟩ := S
  have hK1 : SK = K := hK; have hc1 : Sct = ct K := hc; clear hK hc; subst hc1; subst hK1; cases hge; cases hro; subst hX
  have hu := room.units
  have nd : (["self", "name", "top", "one", "other"] : List PySem.Str).Nodup := by decide +kernel
  exact ss_one (s_ret (e_join (e_str) (e_r (e_add (e_o (o_lc (own := [("name", 1), ("top", 2)]) (is := [1, 2]) rfl nd (i_any (e_at (c := 0) (i := 0) (e_r (e_v (pv 0))) rfl (y.cls_ 31) (y.noat 32) rfl ndc_0)) rfl (fun _ _ _ _ _ => g_tup rfl (g_cons (g_name (i := 1) nd rfl (by first | exact Or.inl rfl | exact Or.inr rfl) (by first | exact Or.inr rfl | exact Or.inl rfl) ⟨_, rfl, by decide⟩) (g_cons (g_name (i := 2) nd rfl (by first | exact Or.inl rfl | exact Or.inr rfl) (by first | exact Or.inr rfl | exact Or.inl rfl) ⟨_, rfl, by decide⟩) (g_nil)))) (fun _ _ _ _ _ => ts_nil) (fun _ _ _ _ _ => e_js (.cons (e_str) (.cons (e_fm (e_v (pv 1))) (.cons (e_str) (.cons (e_fm (e_v (pv 2))) (.nil)))))))) (e_r (e_o (o_lc (own := [("one", 3), ("other", 4)]) (is := [3, 4]) rfl nd (i_any (e_at (c := 0) (i := 1) (e_r (e_v (pv 0))) rfl (y.cls_ 31) (y.noat 33) rfl ndc_0)) rfl (fun _ _ _ _ _ => g_tup rfl (g_cons (g_name (i := 3) nd rfl (by first | exact Or.inl rfl | exact Or.inr rfl) (by first | exact Or.inr rfl | exact Or.inl rfl) ⟨_, rfl, by decide⟩) (g_cons (g_name (i := 4) nd rfl (by first | exact Or.inl rfl | exact Or.inr rfl) (by first | exact Or.inr rfl | exact Or.inl rfl) ⟨_, rfl, by decide⟩) (g_nil)))) (fun _ _ _ _ _ => ts_nil) (fun _ _ _ _ _ => e_js (.cons (e_str) (.cons (e_fm (e_v (pv 3))) (.cons (e_str) (.cons (e_fm (e_v (pv 4))) (.nil))))))))))) rfl))
end Law
namespace Law
open PySem PySem.Spec PyProof.Rows L2 G
/-! ### _law_found -/
noncomputable def l_f_law_found_1 : MS := mTryAs caught_NoText 2 (mSet 1 (mCkd 1 0 1 (fun ds _ => ds) MF_f_read_moor (mCons (mV 0) (mNil)) (mNil))) (mRet (mTup (mCons (mC (.str "none")) (mCons (m1 (dXf xg_row) (mV 2)) (mNil)))))
noncomputable def m_f_law_found : MS := (mSet 1 (mC .non)).sq ((l_f_law_found_1).sq ((mIfS (mOr (mNot (mT (m1 (dIo 0) (mV 1)))) (mB (m2 dNe (mStrO 0 MF_f_Moor_str (mV 1)) (mV 0)))) (mRet (mTup (mCons (mC (.str "other")) (mCons (mV 0) (mNil))))) (mNx)).sq (mRet (mTup (mCons (mC (.str "read")) (mCons (m1 (dAt 0 0) (mV 1)) (mCons (m1 (dAt 1 0) (mV 1)) (mNil))))))))
noncomputable def MF_f_law_found : MFn := mFn 3 [.fz] false m_f_law_found
theorem s_f_law_found : FnScope (["_law_lines_here", "_law_told", "e"] : List PySem.Str) (["_law_lines_here"] : List PySem.Str) (d_f_law_found).scope := ⟨rfl, rfl, rfl, by decide +kernel, rfl, by decide +kernel, by decide +kernel⟩
theorem w_f_law_found {P : Program} {w : World} {K : Frag} {mg : PySem.Str → Option Value} {h : Heap} (y : Hy K mg h) : ∃ fd, FunD K (d_f_law_found).name (d_f_law_found).qual (d_f_law_found).params (d_f_law_found).body (d_f_law_found).scope ((d_f_law_found).dvs K) ((d_f_law_found).kws K) (He.fAd K ("_law_found", none)) fd ∧ BnF K fd (["_law_lines_here"] : List PySem.Str) ∧ PySem.W.keepIn K (.ref (He.fAd K ("_law_found", none))) = true ∧ mg "_law_found" = some (.ref (He.fAd K ("_law_found", none))) ∧ ∀ base : Heap, FnG P w K mg base (CXn false P w) 9 (He.fAd K ("_law_found", none)) fd (["_law_lines_here"] : List PySem.Str) (SpG K (ct K) [.fz] false MF_f_law_found) := by
  obtain ⟨fd_f_read_moor, f_read_moor_d, f_read_moor_b, f_read_moor_k, f_read_moor_m, f_read_moor_r⟩ := w_f_read_moor (P := P) (w := w) y
  obtain ⟨fd_f_Moor_str, f_Moor_str_d, f_Moor_str_b, f_Moor_str_k, f_Moor_str_r⟩ := w_f_Moor_str (P := P) (w := w) y
  obtain ⟨fd, D⟩ := y.says.def_ 19
  refine ⟨fd, D, (bnF (D.bindsN fun _ _ _ _ _ _ us hl => match us, hl with | [_], _ => rfl)), D.kp, y.glo 42, fun base => fn_g (N := (["_law_lines_here", "_law_told", "e"] : List PySem.Str)) (ps := (["_law_lines_here"] : List PySem.Str)) (ks := [.fz]) (Γl := [.fz, .fz]) (Γ' := [.fz, .fz, .fz]) (ro := false) (b := m_f_law_found) D s_f_law_found fun X S cdv A outer s H E hX hK hc hge hro tk gd room po => ?_⟩
  obtain ⟨⟨SK, Sct, F0, H0, ios⟩, Sge, SW, gc, gb, Sro⟩ := S
  have hK1 : SK = K := hK; have hc1 : Sct = ct K := hc; clear hK hc; subst hc1; subst hK1; cases hge; cases hro; subst hX
  have hu := room.units
  have nd : (["_law_lines_here", "_law_told", "e"] : List PySem.Str).Nodup := by decide +kernel
  exact ss_cons (Γ1 := [.fz, .fz, .fz]) (s_set (i := 1) (e_non) nd rfl (by first | exact Or.inl rfl | exact Or.inr rfl) (by first | exact Or.inr rfl | exact Or.inl rfl) ⟨_, rfl, by decide⟩) (ss_cons (Γ1 := [.fz, .fz, .fz]) (s_tryAs (i := 2) (Γe := [.fz, .fz, .fz]) (caught := caught_NoText) rfl rfl nd rfl rfl (tst_name ⟨rfl, by decide, .inl (y.glo 39)⟩) tk (.inl rfl) (exT_NoText y) ⟨_, rfl, by decide⟩ ⟨_, rfl, by decide⟩ (fun _ _ _ tk po => ss_one (s_set (i := 1) (e_g (ks := [.fz]) (MF := MF_f_read_moor) ⟨(f_read_moor_r base).mono (k := 8) (by decide), gd, room⟩ f_read_moor_m f_read_moor_k f_read_moor_b.d tk (.inr ⟨[], _, rfl, rfl⟩) (a_cons (e_v (pv 0)) (a_nil)) rfl) nd rfl (by first | exact Or.inl rfl | exact Or.inr rfl) (by first | exact Or.inr rfl | exact Or.inl rfl) ⟨_, rfl, by decide⟩)) (fun _ _ => ss_one (s_ret (e_tup (a_cons (e_str) (a_cons (e_xf (g := xg_row) (e_v (pv 2)) (xg_row_ok y)) (a_nil))))))) (ss_cons (Γ1 := [.fz, .fz, .fz]) (s_if (t_w (w_or (t_not (t_tru (e_r (e_io (c := 0) (e_r (e_v (pv 1))) rfl (clsF_Moor y) (notB_Moor y) (y.free 15) (y.glo 35))) rfl)) (w_or1 (t_cmp (c_ne hu rfl) (e_strO (c := 0) ((f_Moor_str_r base).mono (k := 6) (by decide)) gd room f_Moor_str_b rfl (y.meth 41).at_ (y.meth 41).fn (e_v (pv 1)) (y.free 6) rfl) (e_r (e_v (pv 0))))))) (ss_one (s_ret (e_tup (a_cons (e_str) (a_cons (e_v (pv 0)) (a_nil)))))) (ss_nil)) (ss_one (s_ret (e_tup (a_cons (e_str) (a_cons (e_at (c := 0) (i := 0) (e_r (e_v (pv 1))) rfl (y.cls_ 31) (y.noat 32) rfl ndc_0) (a_cons (e_at (c := 0) (i := 1) (e_r (e_v (pv 1))) rfl (y.cls_ 31) (y.noat 33) rfl ndc_0) (a_nil)))))))))
end Law
namespace Law
open PySem PySem.Spec PyProof.Rows L2 G
/-! ### _law_is_call -/
noncomputable def c_f_law_is_call_1 : M D := mLc [1] (mIt (mV 0)) (gN 1) (mYes) (m2 dIn (mV 1) (mC (.str "abcdefghijklmnopqrstuvwxyz")))
noncomputable def m_f_law_is_call : MS := mRet (mAndV (mCh dLt dLt (mC (.int 0)) (mA dLen (mCons (mV 0) mNil)) (mC (.int 7))) (mA dAll (mCons (c_f_law_is_call_1) mNil)))
noncomputable def MF_f_law_is_call : MFn := mFn 2 [.fz] false m_f_law_is_call
theorem s_f_law_is_call : FnScope (["_law_word", "_law_sign"] : List PySem.Str) (["_law_word"] : List PySem.Str) (d_f_law_is_call).scope := ⟨rfl, rfl, rfl, by decide +kernel, rfl, by decide +kernel, by decide +kernel⟩
theorem w_f_law_is_call {P : Program} {w : World} {K : Frag} {mg : PySem.Str → Option Value} {h : Heap} (y : Hy K mg h) : ∃ fd, FunD K (d_f_law_is_call).name (d_f_law_is_call).qual (d_f_law_is_call).params (d_f_law_is_call).body (d_f_law_is_call).scope ((d_f_law_is_call).dvs K) ((d_f_law_is_call).kws K) (He.fAd K ("_law_is_call", none)) fd ∧ BnF K fd (["_law_word"] : List PySem.Str) ∧ PySem.W.keepIn K (.ref (He.fAd K ("_law_is_call", none))) = true ∧ mg "_law_is_call" = some (.ref (He.fAd K ("_law_is_call", none))) ∧ ∀ base : Heap, FnG P w K mg base (CXn false P w) 1 (He.fAd K ("_law_is_call", none)) fd (["_law_word"] : List PySem.Str) (SpG K (ct K) [.fz] false MF_f_law_is_call) := by
  obtain ⟨fd, D⟩ := y.says.def_ 20
  refine ⟨fd, D, (bnF (D.bindsN fun _ _ _ _ _ _ us hl => match us, hl with | [_], _ => rfl)), D.kp, y.glo 43, fun base => fn_g (N := (["_law_word", "_law_sign"] : List PySem.Str)) (ps := (["_law_word"] : List PySem.Str)) (ks := [.fz]) (Γl := [.fz]) (Γ' := [.fz, .fz]) (ro := false) (b := m_f_law_is_call) D s_f_law_is_call fun X S cdv A outer s H E hX hK hc hge hro tk gd room po => ?_⟩
  obtain ⟨⟨SK, Sct, F0, H0, ios⟩, Sge, SW, gc, gb, Sro⟩ := S
  have hK1 : SK = K := hK; have hc1 : Sct = ct K := hc; clear hK hc; subst hc1; subst hK1; cases hge; cases hro; subst hX
  have hu := room.units
  have nd : (["_law_word", "_law_sign"] : List PySem.Str).Nodup := by decide +kernel
  exact ss_one (s_ret (e_and (e_chain (c_lt hu rfl) (c_lt hu rfl) (e_int) (e_cb (b_len rfl) (a_oneR (e_r (e_v (pv 0)))) (y.free 2)) (e_r (e_int))) (e_one (e_cb (b_all rfl rfl) (a_oneR (e_r (e_o (o_lc (own := [("_law_sign", 1)]) (is := [1]) rfl nd (i_any (e_v (pv 0))) rfl (fun _ _ _ _ _ => g_name (i := 1) nd rfl (by first | exact Or.inl rfl | exact Or.inr rfl) (by first | exact Or.inr rfl | exact Or.inl rfl) ⟨_, rfl, by decide⟩) (fun _ _ _ _ _ => ts_nil) (fun _ _ _ _ _ => e_cmp (c_in hu rfl) (e_v (pv 1)) (e_r (e_str))))))) (y.free 16)))))
end Law
namespace Law
open PySem PySem.Spec PyProof.Rows L2 G
/-! ### _law_is_high -/
noncomputable def c_f_law_is_high_1 : M D := mLc [1] (mIt (mV 0)) (gN 1) (mYes) (m2 dIn (mV 1) (mC (.str "0123456789")))
noncomputable def m_f_law_is_high : MS := (mIfS (mOr (mB (m2 dEq (mV 0) (mC (.str "")))) (mOr (mB (m2 dGt (mA dLen (mCons (mV 0) mNil)) (mC (.int 10)))) (mNot (mT (mA dAll (mCons (c_f_law_is_high_1) mNil)))))) (mRet (mC (.bl false))) (mNx)).sq (mRet (mAndV (m2 dEq (mA dStr (mCons (mA dIntX (mCons (mV 0) mNil)) mNil)) (mV 0)) (m2 dLe (mA dIntX (mCons (mV 0) mNil)) (m2 dPw (mC (.int 10)) (mC (.int 9))))))
noncomputable def MF_f_law_is_high : MFn := mFn 2 [.fz] false m_f_law_is_high
theorem s_f_law_is_high : FnScope (["_law_word", "_law_sign"] : List PySem.Str) (["_law_word"] : List PySem.Str) (d_f_law_is_high).scope := ⟨rfl, rfl, rfl, by decide +kernel, rfl, by decide +kernel, by decide +kernel⟩
theorem w_f_law_is_high {P : Program} {w : World} {K : Frag} {mg : PySem.Str → Option Value} {h : Heap} (y : Hy K mg h) : ∃ fd, FunD K (d_f_law_is_high).name (d_f_law_is_high).qual (d_f_law_is_high).params (d_f_law_is_high).body (d_f_law_is_high).scope ((d_f_law_is_high).dvs K) ((d_f_law_is_high).kws K) (He.fAd K ("_law_is_high", none)) fd ∧ BnF K fd (["_law_word"] : List PySem.Str) ∧ PySem.W.keepIn K (.ref (He.fAd K ("_law_is_high", none))) = true ∧ mg "_law_is_high" = some (.ref (He.fAd K ("_law_is_high", none))) ∧ ∀ base : Heap, FnG P w K mg base (CXn false P w) 1 (He.fAd K ("_law_is_high", none)) fd (["_law_word"] : List PySem.Str) (SpG K (ct K) [.fz] false MF_f_law_is_high) := by
  obtain ⟨fd, D⟩ := y.says.def_ 21
  refine ⟨fd, D, (bnF (D.bindsN fun _ _ _ _ _ _ us hl => match us, hl with | [_], _ => rfl)), D.kp, y.glo 44, fun base => fn_g (N := (["_law_word", "_law_sign"] : List PySem.Str)) (ps := (["_law_word"] : List PySem.Str)) (ks := [.fz]) (Γl := [.fz]) (Γ' := [.fz, .fz]) (ro := false) (b := m_f_law_is_high) D s_f_law_is_high fun X S cdv A outer s H E hX hK hc hge hro tk gd room po => ?_⟩
  obtain ⟨⟨SK, Sct, F0, H0, ios⟩, Sge, SW, gc, gb, Sro⟩ := S
  have hK1 : SK = K := hK; have hc1 : Sct = ct K := hc; clear hK hc; subst hc1; subst hK1; cases hge; cases hro; subst hX
  have hu := room.units
  have nd : (["_law_word", "_law_sign"] : List PySem.Str).Nodup := by decide +kernel
  exact ss_cons (Γ1 := [.fz, .fz]) (s_if (t_w (w_or (t_cmp (c_eq hu rfl) (e_v (pv 0)) (e_r (e_str))) (w_or (t_cmp (c_gt hu rfl) (e_cb (b_len rfl) (a_oneR (e_r (e_v (pv 0)))) (y.free 2)) (e_r (e_int))) (w_or1 (t_not (t_tru (e_r (e_cb (b_all rfl rfl) (a_oneR (e_r (e_o (o_lc (own := [("_law_sign", 1)]) (is := [1]) rfl nd (i_any (e_v (pv 0))) rfl (fun _ _ _ _ _ => g_name (i := 1) nd rfl (by first | exact Or.inl rfl | exact Or.inr rfl) (by first | exact Or.inr rfl | exact Or.inl rfl) ⟨_, rfl, by decide⟩) (fun _ _ _ _ _ => ts_nil) (fun _ _ _ _ _ => e_cmp (c_in hu rfl) (e_v (pv 1)) (e_r (e_str))))))) (y.free 16))) rfl)))))) (ss_one (s_ret (e_bl))) (ss_nil)) (ss_one (s_ret (e_and (e_cmp (c_eq hu rfl) (e_ct b_str (a_oneR (e_r (e_ct b_intX (a_oneR (e_r (e_v (pv 0)))) (y.free 7)))) (y.free 6)) (e_r (e_v (pv 0)))) (e_one (e_cmp (c_le hu rfl) (e_ct b_intX (a_oneR (e_r (e_v (pv 0)))) (y.free 7)) (e_r (e_pw (e_int) (e_r (e_int)))))))))
end Law
namespace Law
open PySem PySem.Spec PyProof.Rows L2 G
/-! ### _law_adds -/
noncomputable def c_f_law_adds_1 : M D := mLc [5] (mOw 1 id) (gN 5) (mYes) (m2 dIx (mV 5) (mC (.int 0)))
noncomputable def m_f_law_adds : MS := (mIfS (mB (m2 dNe (mA dLen (mCons (mV 0) mNil)) (mC (.int 3)))) (mRet (mC (.bl false))) (mNx)).sq ((mIfS (mB (m2 dEq (m2 dIx (mV 0) (mC (.int 0))) (mC (.str "gauge")))) ((mSet 3 (mOrV (m2L dEq 1 (mLst (mNil))) (m2 dGt (m2 dIx (mV 0) (mC (.int 1))) (m2 dIx (m2L dIx 1 (m1 dNeg (mC (.int 1)))) (mC (.int 0)))))).sq (mRet (mAndV (m2L dEq 2 (mLst (mNil))) (mAndV (m2 dLt (mA dLen (mCons (mV 1) mNil)) (mC (.int 12))) (mAndV (mV 3) (mAndV (mCkd 1 0 1 (fun ds _ => ds) MF_f_law_is_call (mCons (m2 dIx (mV 0) (mC (.int 1))) (mNil)) (mNil)) (mCkd 1 0 1 (fun ds _ => ds) MF_f_law_is_high (mCons (m2 dIx (mV 0) (mC (.int 2))) (mNil)) (mNil)))))))) (mNx)).sq ((mIfS (mOr (mB (m2 dNe (m2 dIx (mV 0) (mC (.int 0))) (mC (.str "rod")))) (mNot (mB (m2 dLt (m2 dIx (mV 0) (mC (.int 1))) (m2 dIx (mV 0) (mC (.int 2))))))) (mRet (mC (.bl false))) (mNx)).sq ((mSet 4 (c_f_law_adds_1)).sq ((mIfS (mOr (mB (m2 dNin (m2 dIx (mV 0) (mC (.int 1))) (mV 4))) (mB (m2 dNin (m2 dIx (mV 0) (mC (.int 2))) (mV 4)))) (mRet (mC (.bl false))) (mNx)).sq (mRet (mOrV (m2L dEq 2 (mLst (mNil))) (m2 dLt (m2L dIx 2 (m1 dNeg (mC (.int 1)))) (mTup (mCons (m2 dIx (mV 0) (mC (.int 1))) (mCons (m2 dIx (mV 0) (mC (.int 2))) (mNil)))))))))))
noncomputable def MF_f_law_adds : MFn := mFn 6 [.fz, .io, .io] false m_f_law_adds
theorem s_f_law_adds : FnScope (["_law_words", "_law_known", "_law_pairs", "_law_fresh", "_law_calls", "_law_pair"] : List PySem.Str) (["_law_words", "_law_known", "_law_pairs"] : List PySem.Str) (d_f_law_adds).scope := ⟨rfl, rfl, rfl, by decide +kernel, rfl, by decide +kernel, by decide +kernel⟩
theorem w_f_law_adds {P : Program} {w : World} {K : Frag} {mg : PySem.Str → Option Value} {h : Heap} (y : Hy K mg h) : ∃ fd, FunD K (d_f_law_adds).name (d_f_law_adds).qual (d_f_law_adds).params (d_f_law_adds).body (d_f_law_adds).scope ((d_f_law_adds).dvs K) ((d_f_law_adds).kws K) (He.fAd K ("_law_adds", none)) fd ∧ BnF K fd (["_law_words", "_law_known", "_law_pairs"] : List PySem.Str) ∧ PySem.W.keepIn K (.ref (He.fAd K ("_law_adds", none))) = true ∧ mg "_law_adds" = some (.ref (He.fAd K ("_law_adds", none))) ∧ ∀ base : Heap, FnG P w K mg base (CXn false P w) 2 (He.fAd K ("_law_adds", none)) fd (["_law_words", "_law_known", "_law_pairs"] : List PySem.Str) (SpG K (ct K) [.fz, .io, .io] false MF_f_law_adds) := by
  obtain ⟨fd_f_law_is_high, f_law_is_high_d, f_law_is_high_b, f_law_is_high_k, f_law_is_high_m, f_law_is_high_r⟩ := w_f_law_is_high (P := P) (w := w) y
  obtain ⟨fd_f_law_is_call, f_law_is_call_d, f_law_is_call_b, f_law_is_call_k, f_law_is_call_m, f_law_is_call_r⟩ := w_f_law_is_call (P := P) (w := w) y
  obtain ⟨fd, D⟩ := y.says.def_ 22
  refine ⟨fd, D, (bnF (D.bindsN fun _ _ _ _ _ _ us hl => match us, hl with | [_, _, _], _ => rfl)), D.kp, y.glo 45, fun base => fn_g (N := (["_law_words", "_law_known", "_law_pairs", "_law_fresh", "_law_calls", "_law_pair"] : List PySem.Str)) (ps := (["_law_words", "_law_known", "_law_pairs"] : List PySem.Str)) (ks := [.fz, .io, .io]) (Γl := [.fz, .fz, .fz]) (Γ' := [.fz, .io, .io, .fz, .ow, .fz]) (ro := false) (b := m_f_law_adds) D s_f_law_adds fun X S cdv A outer s H E hX hK hc hge hro tk gd room po => ?_⟩
  obtain ⟨⟨SK, Sct, F0, H0, ios⟩, Sge, SW, gc, gb, Sro⟩ := S
  have hK1 : SK = K := hK; have hc1 : Sct = ct K := hc; clear hK hc; subst hc1; subst hK1; cases hge; cases hro; subst hX
  have hu := room.units
  have nd : (["_law_words", "_law_known", "_law_pairs", "_law_fresh", "_law_calls", "_law_pair"] : List PySem.Str).Nodup := by decide +kernel
  exact ss_cons (Γ1 := [.fz, .io, .io, .fz, .fz, .fz]) (s_if (t_cmp (c_ne hu rfl) (e_cb (b_len rfl) (a_oneR (e_r (e_v (pv 0)))) (y.free 2)) (e_r (e_int))) (ss_one (s_ret (e_bl))) (ss_nil)) (ss_cons (Γ1 := [.fz, .io, .io, .fz, .fz, .fz]) (s_if (t_cmp (c_eq hu rfl) (e_ix (e_v (pv 0)) (e_int)) (e_r (e_str))) (ss_cons (Γ1 := [.fz, .io, .io, .fz, .fz, .fz]) (s_set (i := 3) (e_or (e_cmpL (c_eq hu rfl) (pv 1) (e_r (e_lst (a_nil)))) (e_one (e_cmp (c_gt hu rfl) (e_ix (e_v (pv 0)) (e_int)) (e_r (e_ix (e_ixL (pv 1) (e_neg (e_int))) (e_int)))))) nd rfl (by first | exact Or.inl rfl | exact Or.inr rfl) (by first | exact Or.inr rfl | exact Or.inl rfl) ⟨_, rfl, by decide⟩) (ss_one (s_ret (e_and (e_cmpL (c_eq hu rfl) (pv 2) (e_r (e_lst (a_nil)))) (e_and (e_cmp (c_lt hu rfl) (e_cb (b_len rfl) (a_oneR (r_v (pv 1))) (y.free 2)) (e_r (e_int))) (e_and (e_v (pv 3)) (e_and (e_g (ks := [.fz]) (MF := MF_f_law_is_call) ⟨(f_law_is_call_r base).mono (k := 1) (by decide), gd, room⟩ f_law_is_call_m f_law_is_call_k f_law_is_call_b.d tk (.inl rfl) (a_cons (e_ix (e_v (pv 0)) (e_int)) (a_nil)) rfl) (e_one (e_g (ks := [.fz]) (MF := MF_f_law_is_high) ⟨(f_law_is_high_r base).mono (k := 1) (by decide), gd, room⟩ f_law_is_high_m f_law_is_high_k f_law_is_high_b.d tk (.inl rfl) (a_cons (e_ix (e_v (pv 0)) (e_int)) (a_nil)) rfl))))))))) (ss_nil)) (ss_cons (Γ1 := [.fz, .io, .io, .fz, .fz, .fz]) (s_if (t_w (w_or (t_cmp (c_ne hu rfl) (e_ix (e_v (pv 0)) (e_int)) (e_r (e_str))) (w_or1 (t_not (t_cmp (c_lt hu rfl) (e_ix (e_v (pv 0)) (e_int)) (e_r (e_ix (e_v (pv 0)) (e_int)))))))) (ss_one (s_ret (e_bl))) (ss_nil)) (ss_cons (Γ1 := [.fz, .io, .io, .fz, .ow, .fz]) (s_setLcW (i := 4) (own := [("_law_pair", 5)]) (is := [5]) rfl nd rfl rfl rfl ⟨_, rfl, by decide⟩ (pv 1) rfl (fun _ _ _ _ _ => g_name (i := 5) nd rfl (by first | exact Or.inl rfl | exact Or.inr rfl) (by first | exact Or.inr rfl | exact Or.inl rfl) ⟨_, rfl, by decide⟩) (fun _ _ _ _ _ => ts_nil) (fun _ _ _ _ _ => e_ix (e_v (pv 5)) (e_int)) rfl (by decide) (by repeat' (first | exact kb_v | exact kb_c | exact kb_yes | exact kb_nil | exact ks_nil | exact kg_n (by decide) | apply kb_b | apply kb_t | apply kb_2 | apply kb_1 | apply kb_not | apply kb_and | apply kb_or | apply kb_tup | apply kb_cons | apply kg_t | apply ks_cons)) (by repeat' (first | exact kb_v | exact kb_c | exact kb_yes | exact kb_nil | exact ks_nil | exact kg_n (by decide) | apply kb_b | apply kb_t | apply kb_2 | apply kb_1 | apply kb_not | apply kb_and | apply kb_or | apply kb_tup | apply kb_cons | apply kg_t | apply ks_cons)) (by repeat' (first | exact kb_v | exact kb_c | exact kb_yes | exact kb_nil | exact ks_nil | exact kg_n (by decide) | apply kb_b | apply kb_t | apply kb_2 | apply kb_1 | apply kb_not | apply kb_and | apply kb_or | apply kb_tup | apply kb_cons | apply kg_t | apply ks_cons))) (ss_cons (Γ1 := [.fz, .io, .io, .fz, .ow, .fz]) (s_if (t_w (w_or (t_cmp (c_nin hu rfl) (e_ix (e_v (pv 0)) (e_int)) (r_v (pv 4))) (w_or1 (t_cmp (c_nin hu rfl) (e_ix (e_v (pv 0)) (e_int)) (r_v (pv 4)))))) (ss_one (s_ret (e_bl))) (ss_nil)) (ss_one (s_ret (e_or (e_cmpL (c_eq hu rfl) (pv 2) (e_r (e_lst (a_nil)))) (e_one (e_cmp (c_lt hu rfl) (e_ixL (pv 2) (e_neg (e_int))) (e_r (e_tup (a_cons (e_ix (e_v (pv 0)) (e_int)) (a_cons (e_ix (e_v (pv 0)) (e_int)) (a_nil))))))))))))))
end Law
namespace Law
open PySem PySem.Spec PyProof.Rows L2 G
/-! ### _law_due -/
noncomputable def b_f_law_due_1 : MS := (mSet 5 (mSpl (mV 4) (mC (.str " ")))).sq ((mIfS (mNot (mT (mCallH [.fz, .sl 1, .sl 2] MF_f_law_adds (mCons (mV 5) ((mV 1).bind fun _ => (mV 2).bind fun _ => mNil))))) (mRet (mTup (mCons (mC (.str "none")) (mCons (mV 3) (mNil))))) (mNx)).sq (mIfS (mB (m2 dEq (m2 dIx (mV 5) (mC (.int 0))) (mC (.str "gauge")))) (mExp (mMl 1 hAppend (mCons (mTup (mCons (m2 dIx (mV 5) (mC (.int 1))) (mCons (mA dIntX (mCons (m2 dIx (mV 5) (mC (.int 2))) mNil)) (mNil)))) (mNil)))) (mExp (mMl 2 hAppend (mCons (mTup (mCons (m2 dIx (mV 5) (mC (.int 1))) (mCons (m2 dIx (mV 5) (mC (.int 2))) (mNil)))) (mNil))))))
noncomputable def l_f_law_due_1 : MS := mFor (mEn (mCons (mIf (mB (m2 dNe (mV 0) (mC (.str "")))) (mSpl (mV 0) (mC (.str "\n"))) (mLst (mNil))) (mNil))) (gT 2 (gC (gN 3) (gC (gN 4) (gE)))) b_f_law_due_1
noncomputable def m_f_law_due : MS := (mPar [1, 2] (mCons (mLst (mNil)) (mCons (mLst (mNil)) (mNil)))).sq ((l_f_law_due_1).sq (mRet (mTup (mCons (mC (.str "read")) (mCons (mA dTupOf (mCons (mV 1) mNil)) (mCons (mA dTupOf (mCons (mV 2) mNil)) (mNil)))))))
noncomputable def MF_f_law_due : MFn := mFn 6 [.fz] false m_f_law_due
theorem s_f_law_due : FnScope (["_law_lines_here", "_law_known", "_law_pairs", "_law_at", "_law_line", "_law_words"] : List PySem.Str) (["_law_lines_here"] : List PySem.Str) (d_f_law_due).scope := ⟨rfl, rfl, rfl, by decide +kernel, rfl, by decide +kernel, by decide +kernel⟩
theorem w_f_law_due {P : Program} {w : World} {K : Frag} {mg : PySem.Str → Option Value} {h : Heap} (y : Hy K mg h) : ∃ fd, FunD K (d_f_law_due).name (d_f_law_due).qual (d_f_law_due).params (d_f_law_due).body (d_f_law_due).scope ((d_f_law_due).dvs K) ((d_f_law_due).kws K) (He.fAd K ("_law_due", none)) fd ∧ BnF K fd (["_law_lines_here"] : List PySem.Str) ∧ PySem.W.keepIn K (.ref (He.fAd K ("_law_due", none))) = true ∧ mg "_law_due" = some (.ref (He.fAd K ("_law_due", none))) ∧ ∀ base : Heap, FnG P w K mg base (CXn false P w) 3 (He.fAd K ("_law_due", none)) fd (["_law_lines_here"] : List PySem.Str) (SpG K (ct K) [.fz] false MF_f_law_due) := by
  obtain ⟨fd_f_law_adds, f_law_adds_d, f_law_adds_b, f_law_adds_k, f_law_adds_m, f_law_adds_r⟩ := w_f_law_adds (P := P) (w := w) y
  obtain ⟨fd, D⟩ := y.says.def_ 23
  refine ⟨fd, D, (bnF (D.bindsN fun _ _ _ _ _ _ us hl => match us, hl with | [_], _ => rfl)), D.kp, y.glo 46, fun base => fn_g (N := (["_law_lines_here", "_law_known", "_law_pairs", "_law_at", "_law_line", "_law_words"] : List PySem.Str)) (ps := (["_law_lines_here"] : List PySem.Str)) (ks := [.fz]) (Γl := [.ow, .ow, .fz, .fz, .fz]) (Γ' := [.fz, .ow, .ow, .fz, .fz, .fz]) (ro := false) (b := m_f_law_due) D s_f_law_due fun X S cdv A outer s H E hX hK hc hge hro tk gd room po => ?_⟩
  obtain ⟨⟨SK, Sct, F0, H0, ios⟩, Sge, SW, gc, gb, Sro⟩ := S
  have hK1 : SK = K := hK; have hc1 : Sct = ct K := hc; clear hK hc; subst hc1; subst hK1; cases hge; cases hro; subst hX
  have hu := room.units
  have nd : (["_law_lines_here", "_law_known", "_law_pairs", "_law_at", "_law_line", "_law_words"] : List PySem.Str).Nodup := by decide +kernel
  exact ss_cons (Γ1 := [.fz, .ow, .ow, .fz, .fz, .fz]) (s_par2 (i := 1) (j := 2) (ba := true) (bb := true) rfl nd (v_ow (o_lst (a_nil)) (v_ow (o_lst (a_nil)) (v_nil))) rfl rfl (by decide) rfl rfl) (ss_cons (Γ1 := [.fz, .ow, .ow, .fz, .fz, .fz]) (s_for (Γ1 := [.fz, .ow, .ow, .fz, .fz, .fz]) (is := [3, 4]) po rfl (i_en (a_cons (e_if (t_cmp (c_ne hu rfl) (e_v (pv 0)) (e_r (e_str))) (e_split (e_v (pv 0)) (e_str)) (e_lst (a_nil))) (a_nil)) (y.free 24)) (g_tup rfl (g_cons (g_name (i := 3) nd rfl (by first | exact Or.inl rfl | exact Or.inr rfl) (by first | exact Or.inr rfl | exact Or.inl rfl) ⟨_, rfl, by decide⟩) (g_cons (g_name (i := 4) nd rfl (by first | exact Or.inl rfl | exact Or.inr rfl) (by first | exact Or.inr rfl | exact Or.inl rfl) ⟨_, rfl, by decide⟩) (g_nil)))) (ss_cons (Γ1 := [.fz, .ow, .ow, .fz, .fz, .fz]) (s_set (i := 5) (e_split (e_v (pv 4)) (e_str)) nd rfl (by first | exact Or.inl rfl | exact Or.inr rfl) (by first | exact Or.inr rfl | exact Or.inl rfl) ⟨_, rfl, by decide⟩) (ss_cons (Γ1 := [.fz, .ow, .ow, .fz, .fz, .fz]) (s_if (t_not (t_tru (e_r (e_h (sh := [.fz, .sl 1, .sl 2]) (ks := [.fz, .io, .io]) (MF := MF_f_law_adds) ⟨(f_law_adds_r base).mono (k := 2) (by decide), gd, room⟩ f_law_adds_m f_law_adds_k f_law_adds_b tk (.inl rfl) (h_fz (e_v (pv 5)) (h_sl (pv 1) (h_sl (pv 2) (h_nil)))))) rfl)) (ss_one (s_ret (e_tup (a_cons (e_str) (a_cons (e_v (pv 3)) (a_nil)))))) (ss_nil)) (ss_one (s_if (t_cmp (c_eq hu rfl) (e_ix (e_v (pv 5)) (e_int)) (e_r (e_str))) (ss_one (s_exp (e_mt F.slot_list_append F.type_list_append mt_append mk_append (pv 1) (a_cons (e_tup (a_cons (e_ix (e_v (pv 5)) (e_int)) (a_cons (e_ct b_intX (a_oneR (e_r (e_ix (e_v (pv 5)) (e_int)))) (y.free 7)) (a_nil)))) (a_nil)) rfl (by decide) rfl))) (ss_one (s_exp (e_mt F.slot_list_append F.type_list_append mt_append mk_append (pv 2) (a_cons (e_tup (a_cons (e_ix (e_v (pv 5)) (e_int)) (a_cons (e_ix (e_v (pv 5)) (e_int)) (a_nil)))) (a_nil)) rfl (by decide) rfl)))))))) (ss_one (s_ret (e_tup (a_cons (e_str) (a_cons (e_ct (b_tuple rfl) (a_oneR (r_v (pv 1))) (y.free 22)) (a_cons (e_ct (b_tuple rfl) (a_oneR (r_v (pv 2))) (y.free 22)) (a_nil))))))))
end Law
namespace Law
open PySem PySem.Spec PyProof.Rows L2 G
/-! ### law -/
noncomputable def b_f_law_1 : MS := (mSet 2 (mCallH [.tm] MF_f_law_lines (mCons (mNP (mCallH [.fz] MF_f_law_hand (mCons (mCkd 2 0 2 (fun ds _ => ds) MF_f_law_cell (mCons (mV 0) (mCons (mV 1) (mNil))) (mNil)) (mNil)))) (mNil)))).sq (mIfS (mB (m2 dNe (mA dRepr (mCons (mCkd 1 0 1 (fun ds _ => ds) MF_f_law_found (mCons (mV 2) (mNil)) (mNil)) (mNil))) (mA dRepr (mCons (mCkd 1 0 1 (fun ds _ => ds) MF_f_law_due (mCons (mV 2) (mNil)) (mNil)) (mNil))))) (mRet (mC (.bl false))) (mNx))
noncomputable def l_f_law_1 : MS := mFor (mRg1 (mCons (mA dMax2 (mCons (mC (.int 2)) (mCons (mA dMin2 (mCons (mA dLen (mCons (mV 0) mNil)) (mCons (mC (.int 40)) mNil))) mNil))) (mNil))) (gN 1) b_f_law_1
noncomputable def m_f_law : MS := (l_f_law_1).sq (mRet (mC (.bl true)))
noncomputable def MF_f_law : MFn := mFn 3 [.fz] false m_f_law
theorem s_f_law : FnScope (["_law_script", "_law_k", "_law_lines_here"] : List PySem.Str) (["_law_script"] : List PySem.Str) (d_f_law).scope := ⟨rfl, rfl, rfl, by decide +kernel, rfl, by decide +kernel, by decide +kernel⟩
theorem w_f_law {P : Program} {w : World} {K : Frag} {mg : PySem.Str → Option Value} {h : Heap} (y : Hy K mg h) : ∃ fd, FunD K (d_f_law).name (d_f_law).qual (d_f_law).params (d_f_law).body (d_f_law).scope ((d_f_law).dvs K) ((d_f_law).kws K) (He.fAd K ("law", none)) fd ∧ BnF K fd (["_law_script"] : List PySem.Str) ∧ PySem.W.keepIn K (.ref (He.fAd K ("law", none))) = true ∧ mg "law" = some (.ref (He.fAd K ("law", none))) ∧ ∀ base : Heap, FnG P w K mg base (CXn false P w) 10 (He.fAd K ("law", none)) fd (["_law_script"] : List PySem.Str) (SpG K (ct K) [.fz] false MF_f_law) := by
  obtain ⟨fd_f_law_lines, f_law_lines_d, f_law_lines_b, f_law_lines_k, f_law_lines_m, f_law_lines_r⟩ := w_f_law_lines (P := P) (w := w) y
  obtain ⟨fd_f_law_hand, f_law_hand_d, f_law_hand_b, f_law_hand_k, f_law_hand_m, f_law_hand_r⟩ := w_f_law_hand (P := P) (w := w) y
  obtain ⟨fd_f_law_cell, f_law_cell_d, f_law_cell_b, f_law_cell_k, f_law_cell_m, f_law_cell_r⟩ := w_f_law_cell (P := P) (w := w) y
  obtain ⟨fd_f_law_due, f_law_due_d, f_law_due_b, f_law_due_k, f_law_due_m, f_law_due_r⟩ := w_f_law_due (P := P) (w := w) y
  obtain ⟨fd_f_law_found, f_law_found_d, f_law_found_b, f_law_found_k, f_law_found_m, f_law_found_r⟩ := w_f_law_found (P := P) (w := w) y
  obtain ⟨fd, D⟩ := y.says.def_ 24
  refine ⟨fd, D, (bnF (D.bindsN fun _ _ _ _ _ _ us hl => match us, hl with | [_], _ => rfl)), D.kp, y.glo 48, fun base => fn_g (N := (["_law_script", "_law_k", "_law_lines_here"] : List PySem.Str)) (ps := (["_law_script"] : List PySem.Str)) (ks := [.fz]) (Γl := [.fz, .fz]) (Γ' := [.fz, .fz, .fz]) (ro := false) (b := m_f_law) D s_f_law fun X S cdv A outer s H E hX hK hc hge hro tk gd room po => ?_⟩
  obtain ⟨⟨SK, Sct, F0, H0, ios⟩, Sge, SW, gc, gb, Sro⟩ := S
  have hK1 : SK = K := hK; have hc1 : Sct = ct K := hc; clear hK hc; subst hc1; subst hK1; cases hge; cases hro; subst hX
  have hu := room.units
  have nd : (["_law_script", "_law_k", "_law_lines_here"] : List PySem.Str).Nodup := by decide +kernel
  exact ss_cons (Γ1 := [.fz, .fz, .fz]) (s_for (Γ1 := [.fz, .fz, .fz]) (is := [1]) po rfl (i_rng1 (a_cons (e_cb (b_max2 rfl) (a_consR (e_int) (a_oneR (e_r (e_cb (b_min2 rfl) (a_consR (e_cb (b_len rfl) (a_oneR (e_r (e_v (pv 0)))) (y.free 2)) (a_oneR (e_r (e_int)))) (y.free 4))))) (y.free 5)) (a_nil)) (y.free 10)) (g_name (i := 1) nd rfl (by first | exact Or.inl rfl | exact Or.inr rfl) (by first | exact Or.inr rfl | exact Or.inl rfl) ⟨_, rfl, by decide⟩) (ss_cons (Γ1 := [.fz, .fz, .fz]) (s_set (i := 2) (e_h (sh := [.tm]) (ks := [.io]) (MF := MF_f_law_lines) ⟨(f_law_lines_r base).mono (k := 9) (by decide), gd, room⟩ f_law_lines_m f_law_lines_k f_law_lines_b tk (.inl rfl) (h_tm (o_h (sh := [.fz]) (ks := [.fz]) (MF := MF_f_law_hand) ⟨(f_law_hand_r base).mono (k := 9) (by decide), gd, room⟩ f_law_hand_m f_law_hand_k f_law_hand_b tk (.inl rfl) (h_fz (e_g (ks := [.fz, .fz]) (MF := MF_f_law_cell) ⟨(f_law_cell_r base).mono (k := 9) (by decide), gd, room⟩ f_law_cell_m f_law_cell_k f_law_cell_b.d tk (.inl rfl) (a_cons (e_v (pv 0)) (a_cons (e_v (pv 1)) (a_nil))) rfl) (h_nil))) (h_nil))) nd rfl (by first | exact Or.inl rfl | exact Or.inr rfl) (by first | exact Or.inr rfl | exact Or.inl rfl) ⟨_, rfl, by decide⟩) (ss_one (s_if (t_cmp (c_ne hu rfl) (e_repr gd hu rfl (a_cons (e_g (ks := [.fz]) (MF := MF_f_law_found) ⟨(f_law_found_r base).mono (k := 9) (by decide), gd, room⟩ f_law_found_m f_law_found_k f_law_found_b.d tk (.inl rfl) (a_cons (e_v (pv 2)) (a_nil)) rfl) (a_nil)) (y.free 47)) (e_r (e_repr gd hu rfl (a_cons (e_g (ks := [.fz]) (MF := MF_f_law_due) ⟨(f_law_due_r base).mono (k := 9) (by decide), gd, room⟩ f_law_due_m f_law_due_k f_law_due_b.d tk (.inl rfl) (a_cons (e_v (pv 2)) (a_nil)) rfl) (a_nil)) (y.free 47)))) (ss_one (s_ret (e_bl))) (ss_nil))))) (ss_one (s_ret (e_bl)))
end Law
namespace Law
open PySem PySem.Spec PyProof.Rows L2 G
noncomputable def t_law_cell (script1 : List Int) (k2 : Int) : O (Int) :=
  if decide (k2 < (script1.length : Int)) = true then
  ((ixL script1 k2).bind fun v3 =>
  O.ok v3)
  else
  ((mulI k2 k2).bind fun v4 =>
  (forN (fun (x7 : Int) (state8 : Int) =>
  (O.ok (((state8 * (70019 : Int)) + x7).fmod (1000000207 : Int))).bind fun (state9 : Int) =>
  O.ok state9) (cutL script1 none (some (4 : Int))) (((30013 : Int) * ((v4 + ((13 : Int) * k2)) + (7 : Int))).fmod (1000000207 : Int))).bind fun state6 =>
  O.ok state6)
theorem q_law_cell (script1 : List Int) (k2 : Int) : FSm MF_f_law_cell [D.scr script1, D.int k2] (fun (b : Int) => D.int b) (fun (_ : Int) => []) (t_law_cell script1 k2) := FSm.mk (show Sm (fun _ => True) (RT (fun (b : Int) => D.int b) (fun (_ : Int) => []) []) (m_f_law_cell [some (D.scr script1), some (D.int k2), none, none]) _ from by
  refine Sm.fin ?_
  refine Sm.sq ?_
  refine Sm.ifp (mB_ok (m2_ok (rfl) (a_ok (cons_ok (rfl) nil_ok) (len_sc _)) (lt_ii _ _))) ?_ ?_
  · intro _
    refine Sm.ret ?_
    refine Sm.m2 ?_
    refine Sm.pu (rfl) ?_
    refine Sm.pu (rfl) ?_
    refine Sm.op (os_ixC _ _) fun v3 => ?_
    exact Sm.done (b := v3) ⟨_, rfl, rfl⟩
  · intro _
    refine Sm.nx ?_
    refine Sm.sq ?_
    refine Sm.set ?_
    refine Sm.m2 ?_
    refine Sm.m2 ?_
    refine Sm.pu (rfl) ?_
    refine Sm.m2 ?_
    refine Sm.m2 ?_
    refine Sm.m2 ?_
    refine Sm.pu (rfl) ?_
    refine Sm.pu (rfl) ?_
    refine Sm.op (os_mul _ _) fun v4 => ?_
    refine Sm.pu (a := D.int ((13 : Int) * k2)) (m2_ok (rfl) (rfl) (mul_ii (cmul_l (i := 13) (by decide) (by decide)))) ?_
    refine Sm.opp rfl ?_
    refine Sm.pu (rfl) ?_
    refine Sm.opp rfl ?_
    refine Sm.opp (mul_ii (cmul_l (i := 30013) (by decide) (by decide))) ?_
    refine Sm.pu (rfl) ?_
    refine Sm.opp (md_ii (j := 1000000207) (by decide)) ?_
    refine Sm.sq ?_
    refine Sm.for ?_
    refine Sm.mIt ?_
    refine Sm.pu (a := (eL D.int) (cutL script1 none (some (4 : Int)))) (sl_ok' (rfl) (pn_ok) (pt_ok (rfl)) (sl_sc _ _ _)) ?_
    refine Sm.opp (it_l _) ?_
    refine Sm.bs (I := fun (z : Int) (y : (Option D)) => [some (D.scr script1), some (D.int k2), some (D.int z), y]) ?_ ?_
    · refine Sm.forN (e := D.int) (I := fun (z : Int) (y : (Option D)) => [some (D.scr script1), some (D.int k2), some (D.int z), y]) ?_ _ (((30013 : Int) * ((v4 + ((13 : Int) * k2)) + (7 : Int))).fmod (1000000207 : Int)) (none)
      · intro x7
        intro state8
        intro j3
        refine Sm.gp rfl ?_
        refine Sm.fin ?_
        refine Sm.set ?_
        refine Sm.pv (f := D.int) (a := (((state8 * (70019 : Int)) + x7).fmod (1000000207 : Int))) (m2_ok (m2_ok (m2_ok (rfl) (rfl) (mul_ii (cmul_r (j := 70019) (by decide) (by decide)))) (rfl) rfl) (rfl) (md_ii (j := 1000000207) (by decide))) fun state9 => ?_
        exact Sm.done (b := state9) ⟨_, .inl rfl⟩
    · intro state6
      intro j3
      refine Sm.ret ?_
      refine Sm.pu (rfl) ?_
      exact Sm.done (b := state6) ⟨_, rfl, rfl⟩)
end Law
namespace Law
open PySem PySem.Spec PyProof.Rows L2 G
noncomputable def t_law_hand (cell1 : Int) : O ((List Int)) :=
  (O.ok (if (decide (cell1 < (0 : Int)) || decide ((1000000000000000000 : Int) ≤ cell1)) = true then (absI cell1) else (0 : Int))).bind fun (digits2 : Int) =>
  O.ok ([digits2, (((cell1.fmod (1000000207 : Int)) * (9013 : Int)) + (5021 : Int)), (0 : Int)])
theorem q_law_hand (cell1 : Int) : FSm MF_f_law_hand [D.int cell1] (fun (b : (List Int)) => (eL D.int) b) (fun (_ : (List Int)) => []) (t_law_hand cell1) := FSm.mk (show Sm (fun _ => True) (RT (fun (b : (List Int)) => (eL D.int) b) (fun (_ : (List Int)) => []) []) (m_f_law_hand [some (D.int cell1), none]) _ from by
  refine Sm.fin ?_
  refine Sm.sq ?_
  refine Sm.set ?_
  refine Sm.pv (f := D.int) (a := (if (decide (cell1 < (0 : Int)) || decide ((1000000000000000000 : Int) ≤ cell1)) = true then (absI cell1) else (0 : Int))) (mIf_ok (e := D.int) (orB_ok (mB_ok (m2_ok (rfl) (rfl) (lt_ii _ _))) (mB_ok (m2_ok (rfl) (m2_ok (rfl) (rfl) (show dPw (.int 10) (.int 18) = some (.int 1000000000000000000) by simp [dPw, dInt, CPow])) (ge_ii _ _)))) (a_ok (cons_ok (rfl) nil_ok) (abs_i _)) (rfl)) fun digits2 => ?_
  refine Sm.ret ?_
  refine Sm.pu (a := (eL D.int) ([digits2, (((cell1.fmod (1000000207 : Int)) * (9013 : Int)) + (5021 : Int)), (0 : Int)])) (lst_ok (cons_ok (rfl) (cons_ok (m2_ok (m2_ok (m2_ok (rfl) (rfl) (md_ii (j := 1000000207) (by decide))) (rfl) (mul_ii (cmul_r (j := 9013) (by decide) (by decide)))) (rfl) rfl) (cons_ok (rfl) (nil_ok)))) (show (3 : Nat) ≤ sizeLine by decide)) ?_
  exact Sm.done (b := ([digits2, (((cell1.fmod (1000000207 : Int)) * (9013 : Int)) + (5021 : Int)), (0 : Int)])) ⟨_, rfl, rfl⟩)
end Law
namespace Law
open PySem PySem.Spec PyProof.Rows L2 G
noncomputable def t_law_draw (hand1 : List Int) (upto2 : Int) : O (Int × (List Int)) :=
  (ixL hand1 (2 : Int)).bind fun v3 =>
  (stL hand1 (2 : Int) (v3 + (1 : Int))).bind fun hand4 =>
  (ixL hand4 (0 : Int)).bind fun v5 =>
  if decide ((0 : Int) < v5) = true then
  ((ixL hand4 (0 : Int)).bind fun v6 =>
  (dmI v6 upto2).bind fun v7 =>
  (stL hand4 (0 : Int) v7.1).bind fun hand8 =>
  O.ok (v7.2, hand8))
  else
  ((ixL hand4 (1 : Int)).bind fun v9 =>
  (mulI (v9.fmod (1000000207 : Int)) (((v9.fmod (1000000207 : Int)).fmod (44017 : Int)) + (28001 : Int))).bind fun v10 =>
  (ixL hand4 (2 : Int)).bind fun v11 =>
  (stL hand4 (1 : Int) (v10 + ((70003 : Int) * v11))).bind fun hand12 =>
  (ixL hand12 (1 : Int)).bind fun v13 =>
  (mdI ((v13.fmod (1000000207 : Int)).fdiv (32 : Int)) upto2).bind fun v14 =>
  O.ok (v14, hand12))
theorem q_law_draw (hand1 : List Int) (upto2 : Int) : FSm MF_f_law_draw [(eL D.int) hand1, D.int upto2] (fun (b : Int × (List Int)) => D.int b.1) (fun (b : Int × (List Int)) => [(eL D.int) b.2]) (t_law_draw hand1 upto2) := FSm.mk (show Sm (fun _ => True) (RT (fun (b : Int × (List Int)) => D.int b.1) (fun (b : Int × (List Int)) => [(eL D.int) b.2]) [0]) (m_f_law_draw [some ((eL D.int) hand1), some (D.int upto2), none, none]) _ from by
  refine Sm.fin ?_
  refine Sm.sq ?_
  refine Sm.asg ?_
  refine Sm.m2 ?_
  refine Sm.m2L ?_
  refine Sm.pu rfl ?_
  refine Sm.pu (rfl) ?_
  refine Sm.pu rfl ?_
  refine Sm.op (os_ixL _ _) fun v3 => ?_
  refine Sm.pu (rfl) ?_
  refine Sm.opp rfl ?_
  refine Sm.gSb (e := D.int) (v := (v3 + (1 : Int))) rfl (rfl) fun hand4 => ?_
  refine Sm.sq ?_
  refine Sm.ifc ?_
  refine Sm.mB ?_
  refine Sm.m2 ?_
  refine Sm.m2L ?_
  refine Sm.pu rfl ?_
  refine Sm.pu (rfl) ?_
  refine Sm.pu rfl ?_
  refine Sm.op (os_ixL _ _) fun v5 => ?_
  refine Sm.pu (rfl) ?_
  refine Sm.opp (gt_ii _ _) ?_
  refine Sm.opp rfl ?_
  refine Sm.ifS ?_ ?_
  · intro _
    refine Sm.sq ?_
    refine Sm.asg ?_
    refine Sm.mA ?_
    refine Sm.mCons ?_
    refine Sm.m2L ?_
    refine Sm.pu rfl ?_
    refine Sm.pu (rfl) ?_
    refine Sm.pu rfl ?_
    refine Sm.op (os_ixL _ _) fun v6 => ?_
    refine Sm.mCons ?_
    refine Sm.pu (rfl) ?_
    refine Sm.pu rfl ?_
    refine Sm.op (os_dm _ _) fun v7 => ?_
    refine Sm.gT rfl ?_
    refine Sm.gC ?_
    refine Sm.gSb (e := D.int) (v := v7.1) rfl (rfl) fun hand8 => ?_
    refine Sm.gC ?_
    refine Sm.gN ?_
    refine Sm.gE ?_
    refine Sm.ret ?_
    refine Sm.pu (rfl) ?_
    exact Sm.done (b := (v7.2, hand8)) ⟨_, rfl, rfl⟩
  · intro _
    refine Sm.nx ?_
    refine Sm.sq ?_
    refine Sm.set ?_
    refine Sm.m2 ?_
    refine Sm.m2L ?_
    refine Sm.pu rfl ?_
    refine Sm.pu (rfl) ?_
    refine Sm.pu rfl ?_
    refine Sm.op (os_ixL _ _) fun v9 => ?_
    refine Sm.pu (rfl) ?_
    refine Sm.opp (md_ii (j := 1000000207) (by decide)) ?_
    refine Sm.sq ?_
    refine Sm.asg ?_
    refine Sm.m2 ?_
    refine Sm.m2 ?_
    refine Sm.pu (rfl) ?_
    refine Sm.pu (a := D.int (((v9.fmod (1000000207 : Int)).fmod (44017 : Int)) + (28001 : Int))) (m2_ok (m2_ok (rfl) (rfl) (md_ii (j := 44017) (by decide))) (rfl) rfl) ?_
    refine Sm.op (os_mul _ _) fun v10 => ?_
    refine Sm.m2 ?_
    refine Sm.pu (rfl) ?_
    refine Sm.m2L ?_
    refine Sm.pu rfl ?_
    refine Sm.pu (rfl) ?_
    refine Sm.pu rfl ?_
    refine Sm.op (os_ixL _ _) fun v11 => ?_
    refine Sm.opp (mul_ii (cmul_l (i := 70003) (by decide) (by decide))) ?_
    refine Sm.opp rfl ?_
    refine Sm.gSb (e := D.int) (v := (v10 + ((70003 : Int) * v11))) rfl (rfl) fun hand12 => ?_
    refine Sm.ret ?_
    refine Sm.m2 ?_
    refine Sm.m2 ?_
    refine Sm.m2 ?_
    refine Sm.m2L ?_
    refine Sm.pu rfl ?_
    refine Sm.pu (rfl) ?_
    refine Sm.pu rfl ?_
    refine Sm.op (os_ixL _ _) fun v13 => ?_
    refine Sm.pu (rfl) ?_
    refine Sm.opp (md_ii (j := 1000000207) (by decide)) ?_
    refine Sm.pu (rfl) ?_
    refine Sm.opp (fd_ii (j := 32) ⟨by decide, by decide⟩) ?_
    refine Sm.pu (rfl) ?_
    refine Sm.op (os_md _ _) fun v14 => ?_
    exact Sm.done (b := (v14, hand12)) ⟨_, rfl, rfl⟩)
end Law
namespace Law
open PySem PySem.Spec PyProof.Rows L2 G
noncomputable def t_law_gauge_line (hand1 : List Int) (spot2 : Int) : O (Str × (List Int)) :=
  (O.ok ([("a" : Str), ("b" : Str), ("bb" : Str), ("c" : Str), ("d" : Str), ("gauge" : Str), ("h" : Str), ("rod" : Str), ("zz" : Str), ("zzzzzz" : Str), ("zzzzzzz" : Str), ("A" : Str)])).bind fun (calls3 : List Str) =>
  (t_law_draw hand1 (10 : Int)).bind fun (v4, hand5) =>
  (ixL ([(0 : Int), (0 : Int), (0 : Int), (0 : Int), (0 : Int), (0 : Int), (0 : Int), (1 : Int), (2 : Int), (-(1 : Int))]) v4).bind fun v6 =>
  (ixL calls3 (minI (11 : Int) (maxI (0 : Int) (spot2 + v6)))).bind fun call7 =>
  (t_law_draw hand5 (8 : Int)).bind fun (v8, hand9) =>
  (t_law_draw hand9 (9 : Int)).bind fun (v10, hand11) =>
  (ixL ([(0 : Int), (1 : Int), (2 : Int), (7 : Int), (12 : Int), (1000000000 : Int), ((1000000000 : Int) + (1 : Int)), (99 : Int)]) (v8 - (intB (decide ((0 : Int) < v10))))).bind fun v12 =>
  (opS (dStr [(D.int v12)])).bind fun much13 =>
  (addS ("gauge " : Str) call7).bind fun v14 =>
  (addS v14 (" " : Str)).bind fun v15 =>
  (addS v15 much13).bind fun v16 =>
  O.ok (v16, hand11)
theorem q_law_gauge_line (hand1 : List Int) (spot2 : Int) : FSm MF_f_law_gauge_line [(eL D.int) hand1, D.int spot2] (fun (b : Str × (List Int)) => D.str b.1) (fun (b : Str × (List Int)) => [(eL D.int) b.2]) (t_law_gauge_line hand1 spot2) := FSm.mk (show Sm (fun _ => True) (RT (fun (b : Str × (List Int)) => D.str b.1) (fun (b : Str × (List Int)) => [(eL D.int) b.2]) [0]) (m_f_law_gauge_line [some ((eL D.int) hand1), some (D.int spot2), none, none, none]) _ from by
  refine Sm.fin ?_
  refine Sm.sq ?_
  refine Sm.set ?_
  refine Sm.pv (f := (eL D.str)) (a := ([("a" : Str), ("b" : Str), ("bb" : Str), ("c" : Str), ("d" : Str), ("gauge" : Str), ("h" : Str), ("rod" : Str), ("zz" : Str), ("zzzzzz" : Str), ("zzzzzzz" : Str), ("A" : Str)])) (lst_ok (cons_ok (rfl) (cons_ok (rfl) (cons_ok (rfl) (cons_ok (rfl) (cons_ok (rfl) (cons_ok (rfl) (cons_ok (rfl) (cons_ok (rfl) (cons_ok (rfl) (cons_ok (rfl) (cons_ok (rfl) (cons_ok (rfl) (nil_ok))))))))))))) (show (12 : Nat) ≤ sizeLine by decide)) fun calls3 => ?_
  refine Sm.sq ?_
  refine Sm.set ?_
  refine Sm.m2 ?_
  refine Sm.pu (rfl) ?_
  refine Sm.mA ?_
  refine Sm.mCons ?_
  refine Sm.pu (rfl) ?_
  refine Sm.mCons ?_
  refine Sm.mA ?_
  refine Sm.mCons ?_
  refine Sm.pu (rfl) ?_
  refine Sm.mCons ?_
  refine Sm.m2 ?_
  refine Sm.pu (rfl) ?_
  refine Sm.m2 ?_
  refine Sm.pu (a := (eL D.int) ([(0 : Int), (0 : Int), (0 : Int), (0 : Int), (0 : Int), (0 : Int), (0 : Int), (1 : Int), (2 : Int), (-(1 : Int))])) (lst_ok (cons_ok (rfl) (cons_ok (rfl) (cons_ok (rfl) (cons_ok (rfl) (cons_ok (rfl) (cons_ok (rfl) (cons_ok (rfl) (cons_ok (rfl) (cons_ok (rfl) (cons_ok (m1_ok (rfl) (neg_i _)) (nil_ok))))))))))) (show (10 : Nat) ≤ sizeLine by decide)) ?_
  refine Sm.mCallH ?_
  refine Sm.asc ?_
  refine Sm.pu rfl ?_
  refine Sm.mCons ?_
  refine Sm.pu (rfl) ?_
  refine Sm.pu rfl ?_
  refine Sm.chH (q_law_draw hand1 (10 : Int)) rfl (fun _ => trivial) fun ⟨v4, hand5⟩ => ?_
  refine Sm.op (os_ixL _ _) fun v6 => ?_
  refine Sm.opp rfl ?_
  refine Sm.pu rfl ?_
  refine Sm.opp (max_ii _ _) ?_
  refine Sm.pu rfl ?_
  refine Sm.opp (min_ii _ _) ?_
  refine Sm.op (os_ixL _ _) fun call7 => ?_
  refine Sm.sq ?_
  refine Sm.set ?_
  refine Sm.mA ?_
  refine Sm.mCons ?_
  refine Sm.m2 ?_
  refine Sm.pu (a := (eL D.int) ([(0 : Int), (1 : Int), (2 : Int), (7 : Int), (12 : Int), (1000000000 : Int), ((1000000000 : Int) + (1 : Int)), (99 : Int)])) (lst_ok (cons_ok (rfl) (cons_ok (rfl) (cons_ok (rfl) (cons_ok (rfl) (cons_ok (rfl) (cons_ok (m2_ok (rfl) (rfl) (show dPw (.int 10) (.int 9) = some (.int 1000000000) by simp [dPw, dInt, CPow])) (cons_ok (m2_ok (m2_ok (rfl) (rfl) (show dPw (.int 10) (.int 9) = some (.int 1000000000) by simp [dPw, dInt, CPow])) (rfl) rfl) (cons_ok (rfl) (nil_ok))))))))) (show (8 : Nat) ≤ sizeLine by decide)) ?_
  refine Sm.m2 ?_
  refine Sm.mCallH ?_
  refine Sm.asc ?_
  refine Sm.pu rfl ?_
  refine Sm.mCons ?_
  refine Sm.pu (rfl) ?_
  refine Sm.pu rfl ?_
  refine Sm.chH (q_law_draw hand5 (8 : Int)) rfl (fun _ => trivial) fun ⟨v8, hand9⟩ => ?_
  refine Sm.mA ?_
  refine Sm.mCons ?_
  refine Sm.m2 ?_
  refine Sm.mCallH ?_
  refine Sm.asc ?_
  refine Sm.pu rfl ?_
  refine Sm.mCons ?_
  refine Sm.pu (rfl) ?_
  refine Sm.pu rfl ?_
  refine Sm.chH (q_law_draw hand9 (9 : Int)) rfl (fun _ => trivial) fun ⟨v10, hand11⟩ => ?_
  refine Sm.pu (rfl) ?_
  refine Sm.opp (gt_ii _ _) ?_
  refine Sm.pu rfl ?_
  refine Sm.opp (int_b _) ?_
  refine Sm.opp (sub_ii _ _) ?_
  refine Sm.op (os_ixL _ _) fun v12 => ?_
  refine Sm.pu rfl ?_
  refine Sm.op os_S fun much13 => ?_
  refine Sm.ret ?_
  refine Sm.m2 ?_
  refine Sm.m2 ?_
  refine Sm.m2 ?_
  refine Sm.pu (rfl) ?_
  refine Sm.pu (rfl) ?_
  refine Sm.op (os_addS _ _) fun v14 => ?_
  refine Sm.pu (rfl) ?_
  refine Sm.op (os_addS _ _) fun v15 => ?_
  refine Sm.pu (rfl) ?_
  refine Sm.op (os_addS _ _) fun v16 => ?_
  exact Sm.done (b := (v16, hand11)) ⟨_, rfl, rfl⟩)
end Law
namespace Law
open PySem PySem.Spec PyProof.Rows L2 G
noncomputable def t_law_rod_line (hand1 : List Int) (count2 : Int) : O (Str × (List Int)) :=
  (O.ok ([("a" : Str), ("b" : Str), ("bb" : Str), ("c" : Str), ("d" : Str), ("gauge" : Str), ("h" : Str), ("rod" : Str), ("zz" : Str)])).bind fun (calls3 : List Str) =>
  (t_law_draw hand1 (maxI (1 : Int) (minI (8 : Int) (count2 - (1 : Int))))).bind fun (low4, hand5) =>
  (t_law_draw hand5 (maxI (1 : Int) (((minI (8 : Int) count2) - low4) - (1 : Int)))).bind fun (v6, hand7) =>
  (ixL calls3 low4).bind fun v8 =>
  (addS ("rod " : Str) v8).bind fun v9 =>
  (addS v9 (" " : Str)).bind fun v10 =>
  (ixL calls3 (minI (8 : Int) ((low4 + (1 : Int)) + v6))).bind fun v11 =>
  (addS v10 v11).bind fun v12 =>
  O.ok (v12, hand7)
theorem q_law_rod_line (hand1 : List Int) (count2 : Int) : FSm MF_f_law_rod_line [(eL D.int) hand1, D.int count2] (fun (b : Str × (List Int)) => D.str b.1) (fun (b : Str × (List Int)) => [(eL D.int) b.2]) (t_law_rod_line hand1 count2) := FSm.mk (show Sm (fun _ => True) (RT (fun (b : Str × (List Int)) => D.str b.1) (fun (b : Str × (List Int)) => [(eL D.int) b.2]) [0]) (m_f_law_rod_line [some ((eL D.int) hand1), some (D.int count2), none, none, none]) _ from by
  refine Sm.fin ?_
  refine Sm.sq ?_
  refine Sm.set ?_
  refine Sm.pv (f := (eL D.str)) (a := ([("a" : Str), ("b" : Str), ("bb" : Str), ("c" : Str), ("d" : Str), ("gauge" : Str), ("h" : Str), ("rod" : Str), ("zz" : Str)])) (lst_ok (cons_ok (rfl) (cons_ok (rfl) (cons_ok (rfl) (cons_ok (rfl) (cons_ok (rfl) (cons_ok (rfl) (cons_ok (rfl) (cons_ok (rfl) (cons_ok (rfl) (nil_ok)))))))))) (show (9 : Nat) ≤ sizeLine by decide)) fun calls3 => ?_
  refine Sm.sq ?_
  refine Sm.set ?_
  refine Sm.mCallH ?_
  refine Sm.asc ?_
  refine Sm.pu rfl ?_
  refine Sm.mCons ?_
  refine Sm.pu (a_ok (cons_ok (rfl) (cons_ok (a_ok (cons_ok (rfl) (cons_ok (m2_ok (rfl) (rfl) (sub_ii _ _)) nil_ok)) (min_ii _ _)) nil_ok)) (max_ii _ _)) ?_
  refine Sm.pu rfl ?_
  refine Sm.chH (q_law_draw hand1 (maxI (1 : Int) (minI (8 : Int) (count2 - (1 : Int))))) rfl (fun _ => trivial) fun ⟨low4, hand5⟩ => ?_
  refine Sm.sq ?_
  refine Sm.set ?_
  refine Sm.m2 ?_
  refine Sm.pu (a := D.int (low4 + (1 : Int))) (m2_ok (rfl) (rfl) rfl) ?_
  refine Sm.mCallH ?_
  refine Sm.asc ?_
  refine Sm.pu rfl ?_
  refine Sm.mCons ?_
  refine Sm.pu (a_ok (cons_ok (rfl) (cons_ok (m2_ok (m2_ok (a_ok (cons_ok (rfl) (cons_ok (rfl) nil_ok)) (min_ii _ _)) (rfl) (sub_ii _ _)) (rfl) (sub_ii _ _)) nil_ok)) (max_ii _ _)) ?_
  refine Sm.pu rfl ?_
  refine Sm.chH (q_law_draw hand5 (maxI (1 : Int) (((minI (8 : Int) count2) - low4) - (1 : Int)))) rfl (fun _ => trivial) fun ⟨v6, hand7⟩ => ?_
  refine Sm.opp rfl ?_
  refine Sm.ret ?_
  refine Sm.m2 ?_
  refine Sm.m2 ?_
  refine Sm.m2 ?_
  refine Sm.pu (rfl) ?_
  refine Sm.m2 ?_
  refine Sm.pu (rfl) ?_
  refine Sm.pu (rfl) ?_
  refine Sm.op (os_ixL _ _) fun v8 => ?_
  refine Sm.op (os_addS _ _) fun v9 => ?_
  refine Sm.pu (rfl) ?_
  refine Sm.op (os_addS _ _) fun v10 => ?_
  refine Sm.m2 ?_
  refine Sm.pu (rfl) ?_
  refine Sm.pu (a := D.int (minI (8 : Int) ((low4 + (1 : Int)) + v6))) (a_ok (cons_ok (rfl) (cons_ok (rfl) nil_ok)) (min_ii _ _)) ?_
  refine Sm.op (os_ixL _ _) fun v11 => ?_
  refine Sm.op (os_addS _ _) fun v12 => ?_
  exact Sm.done (b := (v12, hand7)) ⟨_, rfl, rfl⟩)
end Law
namespace Law
open PySem PySem.Spec PyProof.Rows L2 G
noncomputable def t_law_bent (hand1 : List Int) (lines2 : Str) : O (Str × (List Int)) :=
  (O.ok ([("" : Str), (" " : Str), ("0" : Str), ("1" : Str), ("a" : Str), ("A" : Str), ("-" : Str), ("\n" : Str), ("rod" : Str), ("  " : Str), ("2" : Str), ("." : Str), (" 1" : Str), ("\nrod a b" : Str), ("+" : Str), ("\ngauge zz 3" : Str)])).bind fun (odd3 : List Str) =>
  (lenS lines2).bind fun v4 =>
  (t_law_draw hand1 (v4 + (1 : Int))).bind fun (at5, hand6) =>
  (t_law_draw hand6 (16 : Int)).bind fun (v7, hand8) =>
  (ixL odd3 v7).bind fun sign9 =>
  (slS lines2 none (some at5)).bind fun v10 =>
  (addS v10 sign9).bind fun v11 =>
  (t_law_draw hand8 (3 : Int)).bind fun (v12, hand13) =>
  (slS lines2 (some (at5 + v12)) none).bind fun v14 =>
  (addS v11 v14).bind fun v15 =>
  O.ok (v15, hand13)
theorem q_law_bent (hand1 : List Int) (lines2 : Str) : FSm MF_f_law_bent [(eL D.int) hand1, D.str lines2] (fun (b : Str × (List Int)) => D.str b.1) (fun (b : Str × (List Int)) => [(eL D.int) b.2]) (t_law_bent hand1 lines2) := FSm.mk (show Sm (fun _ => True) (RT (fun (b : Str × (List Int)) => D.str b.1) (fun (b : Str × (List Int)) => [(eL D.int) b.2]) [0]) (m_f_law_bent [some ((eL D.int) hand1), some (D.str lines2), none, none, none]) _ from by
  refine Sm.fin ?_
  refine Sm.sq ?_
  refine Sm.set ?_
  refine Sm.pv (f := (eL D.str)) (a := ([("" : Str), (" " : Str), ("0" : Str), ("1" : Str), ("a" : Str), ("A" : Str), ("-" : Str), ("\n" : Str), ("rod" : Str), ("  " : Str), ("2" : Str), ("." : Str), (" 1" : Str), ("\nrod a b" : Str), ("+" : Str), ("\ngauge zz 3" : Str)])) (lst_ok (cons_ok (rfl) (cons_ok (rfl) (cons_ok (rfl) (cons_ok (rfl) (cons_ok (rfl) (cons_ok (rfl) (cons_ok (rfl) (cons_ok (rfl) (cons_ok (rfl) (cons_ok (rfl) (cons_ok (rfl) (cons_ok (rfl) (cons_ok (rfl) (cons_ok (rfl) (cons_ok (rfl) (cons_ok (rfl) (nil_ok))))))))))))))))) (show (16 : Nat) ≤ sizeLine by decide)) fun odd3 => ?_
  refine Sm.sq ?_
  refine Sm.par ?_
  refine Sm.mCons ?_
  refine Sm.mCallH ?_
  refine Sm.asc ?_
  refine Sm.pu rfl ?_
  refine Sm.mCons ?_
  refine Sm.m2 ?_
  refine Sm.mA ?_
  refine Sm.mCons ?_
  refine Sm.pu (rfl) ?_
  refine Sm.pu rfl ?_
  refine Sm.op (os_lenS _) fun v4 => ?_
  refine Sm.pu (rfl) ?_
  refine Sm.opp rfl ?_
  refine Sm.pu rfl ?_
  refine Sm.chH (q_law_draw hand1 (v4 + (1 : Int))) rfl (fun _ => trivial) fun ⟨at5, hand6⟩ => ?_
  refine Sm.mCons ?_
  refine Sm.m2 ?_
  refine Sm.pu (rfl) ?_
  refine Sm.mCallH ?_
  refine Sm.asc ?_
  refine Sm.pu rfl ?_
  refine Sm.mCons ?_
  refine Sm.pu (rfl) ?_
  refine Sm.pu rfl ?_
  refine Sm.chH (q_law_draw hand6 (16 : Int)) rfl (fun _ => trivial) fun ⟨v7, hand8⟩ => ?_
  refine Sm.op (os_ixL _ _) fun sign9 => ?_
  refine Sm.pu rfl ?_
  refine Sm.ret ?_
  refine Sm.m2 ?_
  refine Sm.m2 ?_
  refine Sm.mSl ?_
  refine Sm.pu (rfl) ?_
  refine Sm.rt ?_
  refine Sm.mPt ?_
  refine Sm.pu (rfl) ?_
  refine Sm.opp rfl ?_
  refine Sm.op (os_slS _ _ _) fun v10 => ?_
  refine Sm.pu (rfl) ?_
  refine Sm.op (os_addS _ _) fun v11 => ?_
  refine Sm.mSl ?_
  refine Sm.pu (rfl) ?_
  refine Sm.mPt ?_
  refine Sm.m2 ?_
  refine Sm.pu (rfl) ?_
  refine Sm.mCallH ?_
  refine Sm.asc ?_
  refine Sm.pu rfl ?_
  refine Sm.mCons ?_
  refine Sm.pu (rfl) ?_
  refine Sm.pu rfl ?_
  refine Sm.chH (q_law_draw hand8 (3 : Int)) rfl (fun _ => trivial) fun ⟨v12, hand13⟩ => ?_
  refine Sm.opp rfl ?_
  refine Sm.opp rfl ?_
  refine Sm.rt ?_
  refine Sm.op (os_slS _ _ _) fun v14 => ?_
  refine Sm.op (os_addS _ _) fun v15 => ?_
  exact Sm.done (b := (v15, hand13)) ⟨_, rfl, rfl⟩)
end Law
namespace Law
open PySem PySem.Spec PyProof.Rows L2 G
noncomputable def t_law_lines (hand1 : List Int) : O (Str × (List Int)) :=
  (t_law_draw hand1 (6 : Int)).bind fun (count2, hand3) =>
  (rg1 count2).bind fun r4 =>
  (forN (fun (x10 : Int) ((hand11, found12) : (List Int) × (List Str)) =>
  (t_law_gauge_line hand11 x10).bind fun (v13, hand14) =>
  (appL found12 v13).bind fun found15 =>
  O.ok (hand14, found15)) r4 (hand3, [])).bind fun (hand8, found9) =>
  (t_law_draw hand8 (4 : Int)).bind fun (v16, hand17) =>
  (mulI v16 (intB (decide ((1 : Int) < count2)))).bind fun v18 =>
  (rg1 v18).bind fun r19 =>
  (forN (fun (x25 : Int) ((hand26, found27) : (List Int) × (List Str)) =>
  (t_law_rod_line hand26 count2).bind fun (v28, hand29) =>
  (appL found27 v28).bind fun found30 =>
  O.ok (hand29, found30)) r19 (hand17, found9)).bind fun (hand23, found24) =>
  (joinO ("\n" : Str) found24).bind fun lines31 =>
  (t_law_draw hand23 (2 : Int)).bind fun (v32, hand33) =>
  (if decide (v32 = (1 : Int)) = true then ((t_law_bent hand33 lines31).bind fun (v36, hand37) =>
  O.ok (v36, hand37)) else (O.ok (lines31, hand33))).bind fun (v38, hand39) =>
  O.ok (v38, hand39)
theorem q_law_lines (hand1 : List Int) : FSm MF_f_law_lines [(eL D.int) hand1] (fun (b : Str × (List Int)) => D.str b.1) (fun (b : Str × (List Int)) => [(eL D.int) b.2]) (t_law_lines hand1) := FSm.mk (show Sm (fun _ => True) (RT (fun (b : Str × (List Int)) => D.str b.1) (fun (b : Str × (List Int)) => [(eL D.int) b.2]) [0]) (m_f_law_lines [some ((eL D.int) hand1), none, none, none, none]) _ from by
  refine Sm.fin ?_
  refine Sm.sq ?_
  refine Sm.par ?_
  refine Sm.mCons ?_
  refine Sm.mCallH ?_
  refine Sm.asc ?_
  refine Sm.pu rfl ?_
  refine Sm.mCons ?_
  refine Sm.pu (rfl) ?_
  refine Sm.pu rfl ?_
  refine Sm.chH (q_law_draw hand1 (6 : Int)) rfl (fun _ => trivial) fun ⟨count2, hand3⟩ => ?_
  refine Sm.mCons ?_
  refine Sm.pu (a := (eL eD) []) (lst_ok (nil_ok) (show (0 : Nat) ≤ sizeLine by decide)) ?_
  refine Sm.pu rfl ?_
  refine Sm.sq ?_
  refine Sm.for ?_
  refine Sm.mRg1 ?_
  refine Sm.mCons ?_
  refine Sm.pu (rfl) ?_
  refine Sm.pu rfl ?_
  refine Sm.op (os_rg1 _) fun r4 => ?_
  refine Sm.bs (I := fun (z : (List Int) × (List Str)) (y : (Option D)) => [some ((eL D.int) z.1), some (D.int count2), some ((eL D.str) z.2), y, none]) ?_ ?_
  · refine Sm.forN (e := D.int) (I := fun (z : (List Int) × (List Str)) (y : (Option D)) => [some ((eL D.int) z.1), some (D.int count2), some ((eL D.str) z.2), y, none]) ?_ _ (hand3, []) (none)
    · intro x10
      intro z_
      refine Prod.rec (fun hand11 found12 => ?_) z_
      intro j3
      refine Sm.gp rfl ?_
      refine Sm.fin ?_
      refine Sm.exp ?_
      refine Sm.mMl rfl ?_
      refine Sm.mCons ?_
      refine Sm.mCallH ?_
      refine Sm.asc ?_
      refine Sm.pu rfl ?_
      refine Sm.mCons ?_
      refine Sm.pu (rfl) ?_
      refine Sm.pu rfl ?_
      refine Sm.chH (q_law_gauge_line hand11 x10) rfl (fun _ => trivial) fun ⟨v13, hand14⟩ => ?_
      refine Sm.pu rfl ?_
      refine Sm.mlK (f := fun b => (D.non, (eL D.str) b)) (d := (eL D.str) found12) rfl (os_app (e := D.str) found12 v13) fun found15 => ?_
      exact Sm.done (b := (hand14, found15)) ⟨_, .inl rfl⟩
  · intro z_
    refine Prod.rec (fun hand8 found9 => ?_) z_
    intro j3
    refine Sm.sq ?_
    refine Sm.for ?_
    refine Sm.mRg1 ?_
    refine Sm.mCons ?_
    refine Sm.m2 ?_
    refine Sm.mCallH ?_
    refine Sm.asc ?_
    refine Sm.pu rfl ?_
    refine Sm.mCons ?_
    refine Sm.pu (rfl) ?_
    refine Sm.pu rfl ?_
    refine Sm.chH (q_law_draw hand8 (4 : Int)) rfl (fun _ => trivial) fun ⟨v16, hand17⟩ => ?_
    refine Sm.mA ?_
    refine Sm.mCons ?_
    refine Sm.pu (a := D.bl (decide ((1 : Int) < count2))) (m2_ok (rfl) (rfl) (gt_ii _ _)) ?_
    refine Sm.pu rfl ?_
    refine Sm.opp (int_b _) ?_
    refine Sm.op (os_mul _ _) fun v18 => ?_
    refine Sm.pu rfl ?_
    refine Sm.op (os_rg1 _) fun r19 => ?_
    refine Sm.bs (I := fun (z : (List Int) × (List Str)) (y : (Option D)) => [some ((eL D.int) z.1), some (D.int count2), some ((eL D.str) z.2), y, none]) ?_ ?_
    · refine Sm.forN (e := D.int) (I := fun (z : (List Int) × (List Str)) (y : (Option D)) => [some ((eL D.int) z.1), some (D.int count2), some ((eL D.str) z.2), y, none]) ?_ _ (hand17, found9) (j3)
      · intro x25
        intro z_
        refine Prod.rec (fun hand26 found27 => ?_) z_
        intro j3
        refine Sm.gp rfl ?_
        refine Sm.fin ?_
        refine Sm.exp ?_
        refine Sm.mMl rfl ?_
        refine Sm.mCons ?_
        refine Sm.mCallH ?_
        refine Sm.asc ?_
        refine Sm.pu rfl ?_
        refine Sm.mCons ?_
        refine Sm.pu (rfl) ?_
        refine Sm.pu rfl ?_
        refine Sm.chH (q_law_rod_line hand26 count2) rfl (fun _ => trivial) fun ⟨v28, hand29⟩ => ?_
        refine Sm.pu rfl ?_
        refine Sm.mlK (f := fun b => (D.non, (eL D.str) b)) (d := (eL D.str) found27) rfl (os_app (e := D.str) found27 v28) fun found30 => ?_
        exact Sm.done (b := (hand29, found30)) ⟨_, .inl rfl⟩
    · intro z_
      refine Prod.rec (fun hand23 found24 => ?_) z_
      intro j3
      refine Sm.sq ?_
      refine Sm.set ?_
      refine Sm.mJo ?_
      refine Sm.pu (rfl) ?_
      refine Sm.joK ?_
      refine Sm.pu (rfl) ?_
      refine Sm.op (os_joinL _ _) fun lines31 => ?_
      refine Sm.ret ?_
      refine Sm.mIf ?_
      refine Sm.mB ?_
      refine Sm.m2 ?_
      refine Sm.mCallH ?_
      refine Sm.asc ?_
      refine Sm.pu rfl ?_
      refine Sm.mCons ?_
      refine Sm.pu (rfl) ?_
      refine Sm.pu rfl ?_
      refine Sm.chH (q_law_draw hand23 (2 : Int)) rfl (fun _ => trivial) fun ⟨v32, hand33⟩ => ?_
      refine Sm.pu (rfl) ?_
      refine Sm.opp (eq_ii _ _) ?_
      refine Sm.opp rfl ?_
      refine Sm.bd (f := fun z => D.str z.1) (g := fun z => [some ((eL D.int) z.2), some (D.int count2), some ((eL D.str) found24), j3, some (D.str lines31)]) ?_ fun ⟨v38, hand39⟩ => ?_
      · refine Sm.ifK ?_ ?_
        · intro _
          refine Sm.ex ?_
          refine Sm.mCallH ?_
          refine Sm.asc ?_
          refine Sm.pu rfl ?_
          refine Sm.mCons ?_
          refine Sm.pu (rfl) ?_
          refine Sm.pu rfl ?_
          refine Sm.chH (q_law_bent hand33 lines31) rfl (fun _ => trivial) fun ⟨v36, hand37⟩ => ?_
          exact Sm.done rfl
        · intro _
          refine Sm.ex ?_
          refine Sm.pu (rfl) ?_
          exact Sm.done rfl
      · exact Sm.done (b := (v38, hand39)) ⟨_, rfl, rfl⟩)
end Law
namespace Law
open PySem PySem.Spec PyProof.Rows L2 G
noncomputable def t_is_name (thing1 : D) : O (Bool) :=
  (isK .str thing1).bind fun v2 =>
  (if (!v2) = true then O.ok true else ((opI (dLen [thing1])).bind fun v5 =>
  (if decide ((1 : Int) ≤ v5) = true then O.ok (decide (v5 ≤ (6 : Int))) else O.ok false).bind fun v6 =>
  O.ok (!v6))).bind fun v7 =>
  if v7 = true then
  (O.ok false)
  else
  ((itD thing1).bind fun r8 =>
  (lcO (fun (x9 : D) => (opB (dIn x9 (D.str ("abcdefghijklmnopqrstuvwxyz" : Str)))).bind fun v11 =>
  O.ok v11) r8).bind fun v12 =>
  O.ok (v12.all id))
theorem q_is_name (thing1 : D) : FSm MF_f_is_name [eD thing1] (fun (b : Bool) => D.bl b) (fun (_ : Bool) => []) (t_is_name thing1) := FSm.mk (show Sm (fun _ => True) (RT (fun (b : Bool) => D.bl b) (fun (_ : Bool) => []) []) (m_f_is_name [some (eD thing1), none]) _ from by
  refine Sm.fin ?_
  refine Sm.sq ?_
  refine Sm.ifc ?_
  refine Sm.mOr ?_
  refine Sm.mNot ?_
  refine Sm.mT ?_
  refine Sm.m1 ?_
  refine Sm.pu (rfl) ?_
  refine Sm.op (os_isK _ _) fun v2 => ?_
  refine Sm.opp rfl ?_
  refine Sm.bd (f := fun z => z) (g := fun _ => [some (eD thing1), none]) ?_ fun v7 => ?_
  · refine Sm.orB (fun _ => ?_) rfl
    refine Sm.ex ?_
    refine Sm.mNot ?_
    refine Sm.mB ?_
    refine Sm.mCh ?_
    refine Sm.pu (rfl) ?_
    refine Sm.mA ?_
    refine Sm.mCons ?_
    refine Sm.pu (rfl) ?_
    refine Sm.pu rfl ?_
    refine Sm.op os_I fun v5 => ?_
    refine Sm.opp (le_ii _ _) ?_
    refine Sm.bd (f := D.bl) (g := fun _ => [some (eD thing1), none]) ?_ fun v6 => ?_
    · refine Sm.chK (fun _ => ?_) rfl
      refine Sm.pu (rfl) ?_
      refine Sm.ex ?_
      refine Sm.opp (le_ii _ _) ?_
      exact Sm.done rfl
    · refine Sm.opp rfl ?_
      exact Sm.done rfl
  · refine Sm.ifS ?_ ?_
    · intro _
      refine Sm.ret ?_
      refine Sm.pu (rfl) ?_
      exact Sm.done (b := false) ⟨_, rfl, rfl⟩
    · intro _
      refine Sm.nx ?_
      refine Sm.ret ?_
      refine Sm.mA ?_
      refine Sm.mCons ?_
      refine Sm.mLc ?_
      refine Sm.mIt ?_
      refine Sm.pu (rfl) ?_
      refine Sm.op (os_itD _) fun r8 => ?_
      refine Sm.lcO (ex := eD) (ey := D.bl) (ρ1 := fun (x9 : D) => [some (eD thing1), some (eD x9)]) (f := fun (x9 : D) => (opB (dIn x9 (D.str ("abcdefghijklmnopqrstuvwxyz" : Str)))).bind fun v11 =>
        O.ok v11) (fun x9 => rfl) (fun x9 => rfl) ?_ _ fun v12 => ?_
      · intro x9
        refine Sm.ex ?_
        refine Sm.m2 ?_
        refine Sm.pu (rfl) ?_
        refine Sm.pu (rfl) ?_
        refine Sm.op os_B fun v11 => ?_
        exact Sm.done rfl
      · refine Sm.pu rfl ?_
        refine Sm.opp (all_l _) ?_
        exact Sm.done (b := (v12.all id)) ⟨_, rfl, rfl⟩)
end Law
namespace Law
open PySem PySem.Spec PyProof.Rows L2 G
noncomputable def t_is_whole (thing1 : D) : O (Bool) :=
  (isK .int thing1).bind fun v2 =>
  (if v2 = true then ((isK .bool thing1).bind fun v4 =>
  O.ok (!v4)) else O.ok false).bind fun v5 =>
  O.ok v5
theorem q_is_whole (thing1 : D) : FSm MF_f_is_whole [eD thing1] (fun (b : Bool) => D.bl b) (fun (_ : Bool) => []) (t_is_whole thing1) := FSm.mk (show Sm (fun _ => True) (RT (fun (b : Bool) => D.bl b) (fun (_ : Bool) => []) []) (m_f_is_whole [some (eD thing1)]) _ from by
  refine Sm.fin ?_
  refine Sm.ret ?_
  refine Sm.mAndV ?_
  refine Sm.m1 ?_
  refine Sm.pu (rfl) ?_
  refine Sm.op (os_isK _ _) fun v2 => ?_
  refine Sm.bd (f := D.bl) (g := fun _ => [some (eD thing1)]) ?_ fun v5 => ?_
  · refine Sm.andK (fun _ => ?_) rfl
    refine Sm.ex ?_
    refine Sm.m1 ?_
    refine Sm.m1 ?_
    refine Sm.pu (rfl) ?_
    refine Sm.op (os_isK _ _) fun v4 => ?_
    refine Sm.opp (not_b _) ?_
    exact Sm.done rfl
  · exact Sm.done (b := v5) ⟨_, rfl, rfl⟩)
end Law
namespace Law
open PySem PySem.Spec PyProof.Rows L2 G
noncomputable def t_is_number (thing1 : D) (most2 : Int) : O (Bool) :=
  (t_is_whole thing1).bind fun v3 =>
  (if v3 = true then ((opB (dLe (D.int (0 : Int)) thing1)).bind fun v7 =>
  (if v7 = true then opB (dLe thing1 (D.int most2)) else O.ok false).bind fun v9 =>
  O.ok v9) else O.ok false).bind fun v10 =>
  O.ok v10
theorem q_is_number (thing1 : D) (most2 : Int) : FSm MF_f_is_number [eD thing1, D.int most2] (fun (b : Bool) => D.bl b) (fun (_ : Bool) => []) (t_is_number thing1 most2) := FSm.mk (show Sm (fun _ => True) (RT (fun (b : Bool) => D.bl b) (fun (_ : Bool) => []) []) (m_f_is_number [some (eD thing1), some (D.int most2)]) _ from by
  refine Sm.fin ?_
  refine Sm.ret ?_
  refine Sm.mAndV ?_
  refine Sm.mCkd ?_
  refine Sm.mCons ?_
  refine Sm.pu (rfl) ?_
  refine Sm.pu rfl ?_
  refine Sm.pu rfl ?_
  refine Sm.ckK (q_is_whole thing1) ⟨rfl, rfl, rfl⟩ rfl trivial fun v3 => ?_
  refine Sm.bd (f := D.bl) (g := fun _ => [some (eD thing1), some (D.int most2)]) ?_ fun v10 => ?_
  · refine Sm.andK (fun _ => ?_) rfl
    refine Sm.ex ?_
    refine Sm.mCh ?_
    refine Sm.pu (rfl) ?_
    refine Sm.pu (rfl) ?_
    refine Sm.op os_B fun v7 => ?_
    refine Sm.bd (f := D.bl) (g := fun _ => [some (eD thing1), some (D.int most2)]) ?_ fun v9 => ?_
    · refine Sm.chK (fun _ => ?_) rfl
      refine Sm.pu (rfl) ?_
      refine Sm.ex ?_
      exact Sm.opE os_B
    · exact Sm.done rfl
  · exact Sm.done (b := v10) ⟨_, rfl, rfl⟩)
end Law
namespace Law
open PySem PySem.Spec PyProof.Rows L2 G
noncomputable def t_is_gauge (thing1 : D) : O (Bool) :=
  (isK .tuple thing1).bind fun v2 =>
  (if v2 = true then ((opI (dLen [thing1])).bind fun v19 =>
  (if decide (v19 = (2 : Int)) = true then ((opD (dIx thing1 (D.int (0 : Int)))).bind fun v27 =>
  (t_is_name v27).bind fun v28 =>
  (if v28 = true then ((opD (dIx thing1 (D.int (1 : Int)))).bind fun v31 =>
  (t_is_number v31 (1000000000 : Int)).bind fun v32 =>
  O.ok v32) else O.ok false).bind fun v33 =>
  O.ok v33) else O.ok false).bind fun v34 =>
  O.ok v34) else O.ok false).bind fun v35 =>
  O.ok v35
theorem q_is_gauge (thing1 : D) : FSm MF_f_is_gauge [eD thing1] (fun (b : Bool) => D.bl b) (fun (_ : Bool) => []) (t_is_gauge thing1) := FSm.mk (show Sm (fun _ => True) (RT (fun (b : Bool) => D.bl b) (fun (_ : Bool) => []) []) (m_f_is_gauge [some (eD thing1)]) _ from by
  refine Sm.fin ?_
  refine Sm.ret ?_
  refine Sm.mAndV ?_
  refine Sm.m1 ?_
  refine Sm.pu (rfl) ?_
  refine Sm.op (os_isK _ _) fun v2 => ?_
  refine Sm.bd (f := D.bl) (g := fun _ => [some (eD thing1)]) ?_ fun v35 => ?_
  · refine Sm.andK (fun _ => ?_) rfl
    refine Sm.ex ?_
    refine Sm.mAndV ?_
    refine Sm.m2 ?_
    refine Sm.mA ?_
    refine Sm.mCons ?_
    refine Sm.pu (rfl) ?_
    refine Sm.pu rfl ?_
    refine Sm.op os_I fun v19 => ?_
    refine Sm.pu (rfl) ?_
    refine Sm.opp (eq_ii _ _) ?_
    refine Sm.bd (f := D.bl) (g := fun _ => [some (eD thing1)]) ?_ fun v34 => ?_
    · refine Sm.andK (fun _ => ?_) rfl
      refine Sm.ex ?_
      refine Sm.mAndV ?_
      refine Sm.mCkd ?_
      refine Sm.mCons ?_
      refine Sm.m2 ?_
      refine Sm.pu (rfl) ?_
      refine Sm.pu (rfl) ?_
      refine Sm.op os_D fun v27 => ?_
      refine Sm.pu rfl ?_
      refine Sm.pu rfl ?_
      refine Sm.ckK (q_is_name v27) ⟨rfl, rfl, rfl⟩ rfl trivial fun v28 => ?_
      refine Sm.bd (f := D.bl) (g := fun _ => [some (eD thing1)]) ?_ fun v33 => ?_
      · refine Sm.andK (fun _ => ?_) rfl
        refine Sm.ex ?_
        refine Sm.mCkd ?_
        refine Sm.mCons ?_
        refine Sm.m2 ?_
        refine Sm.pu (rfl) ?_
        refine Sm.pu (rfl) ?_
        refine Sm.op os_D fun v31 => ?_
        refine Sm.mCons ?_
        refine Sm.pu (rfl) ?_
        refine Sm.pu rfl ?_
        refine Sm.pu rfl ?_
        refine Sm.ckK (q_is_number v31 (1000000000 : Int)) ⟨rfl, rfl, rfl⟩ rfl trivial fun v32 => ?_
        exact Sm.done rfl
      · exact Sm.done rfl
    · exact Sm.done rfl
  · exact Sm.done (b := v35) ⟨_, rfl, rfl⟩)
end Law
namespace Law
open PySem PySem.Spec PyProof.Rows L2 G
noncomputable def t_odd_gauge (gauges1 : D) : O ((Option Int)) :=
  (ofO ((dSq gauges1).map enL)).bind fun r2 =>
  (forR (ρ := (Option Int)) (fun (x18 : Int × D) (last19 : D) =>
  (t_is_gauge x18.2).bind fun v20 =>
  (if (!v20) = true then O.ok true else ((opD (dIx x18.2 (D.int (0 : Int)))).bind fun v23 =>
  (opB (dLe v23 last19)).bind fun v24 =>
  O.ok v24)).bind fun v25 =>
  if v25 = true then
  (O.ok (Stp.rt (some x18.1)))
  else
  ((opD (dIx x18.2 (D.int (0 : Int)))).bind fun last26 =>
  O.ok (Stp.on last26))) r2 (D.str ("" : Str))).bind fun z => match z with
  | .inl v26 => O.ok v26
  | .inr last17 =>
  O.ok none
theorem q_odd_gauge (gauges1 : D) : FSm MF_f_odd_gauge [eD gauges1] (fun (b : (Option Int)) => (eO D.int) b) (fun (_ : (Option Int)) => []) (t_odd_gauge gauges1) := FSm.mk (show Sm (fun _ => True) (RT (fun (b : (Option Int)) => (eO D.int) b) (fun (_ : (Option Int)) => []) []) (m_f_odd_gauge [some (eD gauges1), none, none, none]) _ from by
  refine Sm.fin ?_
  refine Sm.sq ?_
  refine Sm.set ?_
  refine Sm.pu (rfl) ?_
  refine Sm.sq ?_
  refine Sm.for ?_
  refine Sm.mEn ?_
  refine Sm.mCons ?_
  refine Sm.pu (rfl) ?_
  refine Sm.pu rfl ?_
  refine Sm.op (os_en (sqD_D _)) fun r2 => ?_
  refine Sm.bR (I := fun (z : D) (y : (Option D) × (Option D)) => [some (eD gauges1), some (eD z), y.1, y.2]) (Q := (RT (fun (b : (Option Int)) => (eO D.int) b) (fun (_ : (Option Int)) => []) [])) ?_ ?_ ?_
  · refine Sm.forR (e := (eP D.int eD)) (I := fun (z : D) (y : (Option D) × (Option D)) => [some (eD gauges1), some (eD z), y.1, y.2]) (Q := (RT (fun (b : (Option Int)) => (eO D.int) b) (fun (_ : (Option Int)) => []) [])) ?_ _ (D.str ("" : Str)) (none, none)
    · intro x18
      intro last19
      intro j2_3
      refine Sm.gp rfl ?_
      refine Sm.fin ?_
      refine Sm.sq ?_
      refine Sm.ifc ?_
      refine Sm.mOr ?_
      refine Sm.mNot ?_
      refine Sm.mT ?_
      refine Sm.mCkd ?_
      refine Sm.mCons ?_
      refine Sm.pu (rfl) ?_
      refine Sm.pu rfl ?_
      refine Sm.pu rfl ?_
      refine Sm.ckK (q_is_gauge x18.2) ⟨rfl, rfl, rfl⟩ rfl trivial fun v20 => ?_
      refine Sm.opp rfl ?_
      refine Sm.bd (f := fun z => z) (g := fun _ => [some (eD gauges1), some (eD last19), some (D.int x18.1), some (eD x18.2)]) ?_ fun v25 => ?_
      · refine Sm.orB (fun _ => ?_) rfl
        refine Sm.ex ?_
        refine Sm.mB ?_
        refine Sm.m2 ?_
        refine Sm.m2 ?_
        refine Sm.pu (rfl) ?_
        refine Sm.pu (rfl) ?_
        refine Sm.op os_D fun v23 => ?_
        refine Sm.pu (rfl) ?_
        refine Sm.op os_B fun v24 => ?_
        refine Sm.opp rfl ?_
        exact Sm.done rfl
      · refine Sm.ifS ?_ ?_
        · intro _
          refine Sm.ret ?_
          refine Sm.pu (rfl) ?_
          exact Sm.done (b := (Stp.rt (some x18.1))) (RT.rt ⟨_, rfl, rfl⟩)
        · intro _
          refine Sm.nx ?_
          refine Sm.set ?_
          refine Sm.m2 ?_
          refine Sm.pu (rfl) ?_
          refine Sm.pu (rfl) ?_
          refine Sm.op os_D fun last26 => ?_
          exact Sm.done (b := (Stp.on last26)) ⟨⟨_, _⟩, .inl rfl⟩
  · intro v26 hv
    exact Sm.done hv
  · intro last17
    intro j2_3
    refine Sm.ret ?_
    refine Sm.pu (rfl) ?_
    exact Sm.done (b := none) ⟨_, rfl, rfl⟩)
end Law
namespace Law
open PySem PySem.Spec PyProof.Rows L2 G
noncomputable def t_is_rod (thing1 : D) (names2 : List Str) : O (Bool) :=
  (isK .tuple thing1).bind fun v3 =>
  (if (!v3) = true then O.ok true else ((opI (dLen [thing1])).bind fun v5 =>
  O.ok (!decide (v5 = (2 : Int))))).bind fun v6 =>
  if v6 = true then
  (O.ok false)
  else
  ((itD thing1).bind fun r7 =>
  (lcO (fun (x8 : D) => (t_is_name x8).bind fun v13 =>
  (if v13 = true then ((opB (dIn x8 ((eL D.str) names2))).bind fun v15 =>
  O.ok v15) else O.ok false).bind fun v16 =>
  O.ok v16) r7).bind fun v17 =>
  (if (v17.all id) = true then ((opD (dIx thing1 (D.int (0 : Int)))).bind fun v21 =>
  (opD (dIx thing1 (D.int (1 : Int)))).bind fun v22 =>
  (opB (dLt v21 v22)).bind fun v23 =>
  O.ok v23) else O.ok false).bind fun v24 =>
  O.ok v24)
theorem q_is_rod (thing1 : D) (names2 : List Str) : FSm MF_f_is_rod [eD thing1, (eL D.str) names2] (fun (b : Bool) => D.bl b) (fun (_ : Bool) => []) (t_is_rod thing1 names2) := FSm.mk (show Sm (fun _ => True) (RT (fun (b : Bool) => D.bl b) (fun (_ : Bool) => []) []) (m_f_is_rod [some (eD thing1), some ((eL D.str) names2), none]) _ from by
  refine Sm.fin ?_
  refine Sm.sq ?_
  refine Sm.ifc ?_
  refine Sm.mOr ?_
  refine Sm.mNot ?_
  refine Sm.mT ?_
  refine Sm.m1 ?_
  refine Sm.pu (rfl) ?_
  refine Sm.op (os_isK _ _) fun v3 => ?_
  refine Sm.opp rfl ?_
  refine Sm.bd (f := fun z => z) (g := fun _ => [some (eD thing1), some ((eL D.str) names2), none]) ?_ fun v6 => ?_
  · refine Sm.orB (fun _ => ?_) rfl
    refine Sm.ex ?_
    refine Sm.mB ?_
    refine Sm.m2 ?_
    refine Sm.mA ?_
    refine Sm.mCons ?_
    refine Sm.pu (rfl) ?_
    refine Sm.pu rfl ?_
    refine Sm.op os_I fun v5 => ?_
    refine Sm.pu (rfl) ?_
    refine Sm.opp (ne_ii _ _) ?_
    refine Sm.opp rfl ?_
    exact Sm.done rfl
  · refine Sm.ifS ?_ ?_
    · intro _
      refine Sm.ret ?_
      refine Sm.pu (rfl) ?_
      exact Sm.done (b := false) ⟨_, rfl, rfl⟩
    · intro _
      refine Sm.nx ?_
      refine Sm.ret ?_
      refine Sm.mAndV ?_
      refine Sm.mA ?_
      refine Sm.mCons ?_
      refine Sm.mLc ?_
      refine Sm.mIt ?_
      refine Sm.pu (rfl) ?_
      refine Sm.op (os_itD _) fun r7 => ?_
      refine Sm.lcO (ex := eD) (ey := D.bl) (ρ1 := fun (x8 : D) => [some (eD thing1), some ((eL D.str) names2), some (eD x8)]) (f := fun (x8 : D) => (t_is_name x8).bind fun v13 =>
        (if v13 = true then ((opB (dIn x8 ((eL D.str) names2))).bind fun v15 =>
        O.ok v15) else O.ok false).bind fun v16 =>
        O.ok v16) (fun x8 => rfl) (fun x8 => rfl) ?_ _ fun v17 => ?_
      · intro x8
        refine Sm.ex ?_
        refine Sm.mAndV ?_
        refine Sm.mCkd ?_
        refine Sm.mCons ?_
        refine Sm.pu (rfl) ?_
        refine Sm.pu rfl ?_
        refine Sm.pu rfl ?_
        refine Sm.ckK (q_is_name x8) ⟨rfl, rfl, rfl⟩ rfl trivial fun v13 => ?_
        refine Sm.bd (f := D.bl) (g := fun _ => [some (eD thing1), some ((eL D.str) names2), some (eD x8)]) ?_ fun v16 => ?_
        · refine Sm.andK (fun _ => ?_) rfl
          refine Sm.ex ?_
          refine Sm.m2 ?_
          refine Sm.pu (rfl) ?_
          refine Sm.pu (rfl) ?_
          refine Sm.op os_B fun v15 => ?_
          exact Sm.done rfl
        · exact Sm.done rfl
      · refine Sm.pu rfl ?_
        refine Sm.opp (all_l _) ?_
        refine Sm.bd (f := D.bl) (g := fun _ => [some (eD thing1), some ((eL D.str) names2), none]) ?_ fun v24 => ?_
        · refine Sm.andK (fun _ => ?_) rfl
          refine Sm.ex ?_
          refine Sm.m2 ?_
          refine Sm.m2 ?_
          refine Sm.pu (rfl) ?_
          refine Sm.pu (rfl) ?_
          refine Sm.op os_D fun v21 => ?_
          refine Sm.m2 ?_
          refine Sm.pu (rfl) ?_
          refine Sm.pu (rfl) ?_
          refine Sm.op os_D fun v22 => ?_
          refine Sm.op os_B fun v23 => ?_
          exact Sm.done rfl
        · exact Sm.done (b := v24) ⟨_, rfl, rfl⟩)
end Law
namespace Law
open PySem PySem.Spec PyProof.Rows L2 G
noncomputable def t_odd_rod (rods1 : D) (names2 : List Str) : O ((Option Int)) :=
  (ofO ((dSq rods1).map enL)).bind fun r3 =>
  (forR (ρ := (Option Int)) (fun (x9 : Int × D) (last10 : D) =>
  (t_is_rod x9.2 names2).bind fun v11 =>
  (if (!v11) = true then O.ok true else ((opB (dLe x9.2 last10)).bind fun v13 =>
  O.ok v13)).bind fun v14 =>
  if v14 = true then
  (O.ok (Stp.rt (some x9.1)))
  else
  (O.ok (Stp.on x9.2))) r3 ((eP D.str D.str) (("" : Str), ("" : Str)))).bind fun z => match z with
  | .inl v14 => O.ok v14
  | .inr last8 =>
  O.ok none
theorem q_odd_rod (rods1 : D) (names2 : List Str) : FSm MF_f_odd_rod [eD rods1, (eL D.str) names2] (fun (b : (Option Int)) => (eO D.int) b) (fun (_ : (Option Int)) => []) (t_odd_rod rods1 names2) := FSm.mk (show Sm (fun _ => True) (RT (fun (b : (Option Int)) => (eO D.int) b) (fun (_ : (Option Int)) => []) []) (m_f_odd_rod [some (eD rods1), some ((eL D.str) names2), none, none, none]) _ from by
  refine Sm.fin ?_
  refine Sm.sq ?_
  refine Sm.set ?_
  refine Sm.pu (tup_ok (cons_ok (rfl) (cons_ok (rfl) (nil_ok))) (show (2 : Nat) ≤ sizeLine by decide)) ?_
  refine Sm.sq ?_
  refine Sm.for ?_
  refine Sm.mEn ?_
  refine Sm.mCons ?_
  refine Sm.pu (rfl) ?_
  refine Sm.pu rfl ?_
  refine Sm.op (os_en (sqD_D _)) fun r3 => ?_
  refine Sm.bR (I := fun (z : D) (y : (Option D) × (Option D)) => [some (eD rods1), some ((eL D.str) names2), some (eD z), y.1, y.2]) (Q := (RT (fun (b : (Option Int)) => (eO D.int) b) (fun (_ : (Option Int)) => []) [])) ?_ ?_ ?_
  · refine Sm.forR (e := (eP D.int eD)) (I := fun (z : D) (y : (Option D) × (Option D)) => [some (eD rods1), some ((eL D.str) names2), some (eD z), y.1, y.2]) (Q := (RT (fun (b : (Option Int)) => (eO D.int) b) (fun (_ : (Option Int)) => []) [])) ?_ _ ((eP D.str D.str) (("" : Str), ("" : Str))) (none, none)
    · intro x9
      intro last10
      intro j3_4
      refine Sm.gp rfl ?_
      refine Sm.fin ?_
      refine Sm.sq ?_
      refine Sm.ifc ?_
      refine Sm.mOr ?_
      refine Sm.mNot ?_
      refine Sm.mT ?_
      refine Sm.mCkd ?_
      refine Sm.mCons ?_
      refine Sm.pu (rfl) ?_
      refine Sm.mCons ?_
      refine Sm.pu (rfl) ?_
      refine Sm.pu rfl ?_
      refine Sm.pu rfl ?_
      refine Sm.ckK (q_is_rod x9.2 names2) ⟨rfl, rfl, rfl⟩ rfl trivial fun v11 => ?_
      refine Sm.opp rfl ?_
      refine Sm.bd (f := fun z => z) (g := fun _ => [some (eD rods1), some ((eL D.str) names2), some (eD last10), some (D.int x9.1), some (eD x9.2)]) ?_ fun v14 => ?_
      · refine Sm.orB (fun _ => ?_) rfl
        refine Sm.ex ?_
        refine Sm.mB ?_
        refine Sm.m2 ?_
        refine Sm.pu (rfl) ?_
        refine Sm.pu (rfl) ?_
        refine Sm.op os_B fun v13 => ?_
        refine Sm.opp rfl ?_
        exact Sm.done rfl
      · refine Sm.ifS ?_ ?_
        · intro _
          refine Sm.ret ?_
          refine Sm.pu (rfl) ?_
          exact Sm.done (b := (Stp.rt (some x9.1))) (RT.rt ⟨_, rfl, rfl⟩)
        · intro _
          refine Sm.nx ?_
          refine Sm.set ?_
          refine Sm.pu (rfl) ?_
          exact Sm.done (b := (Stp.on x9.2)) ⟨⟨_, _⟩, .inl rfl⟩
  · intro v14 hv
    exact Sm.done hv
  · intro last8
    intro j3_4
    refine Sm.ret ?_
    refine Sm.pu (rfl) ?_
    exact Sm.done (b := none) ⟨_, rfl, rfl⟩)
end Law
namespace Law
open PySem PySem.Spec PyProof.Rows L2 G
noncomputable def t_Moor_init (self1 : D) (gauges2 : D) (rods3 : D) : O (D) :=
  (isK .tuple gauges2).bind fun v4 =>
  (if (!v4) = true then O.ok true else ((opI (dLen [gauges2])).bind fun v6 =>
  O.ok (decide ((12 : Int) < v6)))).bind fun v7 =>
  if v7 = true then
  (O.er ⟨1, [(eU ())]⟩)
  else
  ((t_odd_gauge gauges2).bind fun place8 =>
  (match place8 with
  | none => (((cT (cP cS cI)) gauges2).bind fun gauges9 =>
  (isK .tuple rods3).bind fun v10 =>
  if (!v10) = true then
  (O.er ⟨2, [(eU ())]⟩)
  else
  ((lcM (fun (x11 : Str × Int) => x11.1) gauges9).bind fun v12 =>
  (t_odd_rod rods3 v12).bind fun place13 =>
  (match place13 with
  | none => (((cT (cP cS cS)) rods3).bind fun rods14 =>
  (flO 0 0 self1 ((eT (eP D.str D.int)) gauges9)).bind fun self15 =>
  (flO 0 1 self15 ((eT (eP D.str D.str)) rods14)).bind fun self16 =>
  O.ok self16)
  | some place17 => (O.er ⟨2, [(D.int place17)]⟩))))
  | some place18 => (O.er ⟨1, [(D.int place18)]⟩)))
theorem q_Moor_init (self1 : D) (gauges2 : D) (rods3 : D) : FSm MF_f_Moor_init [eD self1, eD gauges2, eD rods3] (fun (_ : D) => D.non) (fun (b : D) => [eD b]) (t_Moor_init self1 gauges2 rods3) := FSm.mkN (show Sm (fun _ => True) (RN (fun (_ : D) => D.non) (fun (b : D) => [eD b]) [0]) (m_f_Moor_init [some (eD self1), some (eD gauges2), some (eD rods3), none, none, none]) _ from by
  refine Sm.fin ?_
  refine Sm.sq ?_
  refine Sm.ifc ?_
  refine Sm.mOr ?_
  refine Sm.mNot ?_
  refine Sm.mT ?_
  refine Sm.m1 ?_
  refine Sm.pu (rfl) ?_
  refine Sm.op (os_isK _ _) fun v4 => ?_
  refine Sm.opp rfl ?_
  refine Sm.bd (f := fun z => z) (g := fun _ => [some (eD self1), some (eD gauges2), some (eD rods3), none, none, none]) ?_ fun v7 => ?_
  · refine Sm.orB (fun _ => ?_) rfl
    refine Sm.ex ?_
    refine Sm.mB ?_
    refine Sm.m2 ?_
    refine Sm.mA ?_
    refine Sm.mCons ?_
    refine Sm.pu (rfl) ?_
    refine Sm.pu rfl ?_
    refine Sm.op os_I fun v6 => ?_
    refine Sm.pu (rfl) ?_
    refine Sm.opp (gt_ii _ _) ?_
    refine Sm.opp rfl ?_
    exact Sm.done rfl
  · refine Sm.ifS ?_ ?_
    · intro _
      exact Sm.rsF (rfl) trivial
    · intro _
      refine Sm.nx ?_
      refine Sm.sq ?_
      refine Sm.set ?_
      refine Sm.mCkd ?_
      refine Sm.mCons ?_
      refine Sm.pu (rfl) ?_
      refine Sm.pu rfl ?_
      refine Sm.pu rfl ?_
      refine Sm.ckK (q_odd_gauge gauges2) ⟨rfl, rfl, rfl⟩ rfl trivial fun place8 => ?_
      refine Sm.sq ?_
      cases place8 with
      | none =>
        refine Sm.ifpF (mB_ok (m2_ok (rfl) (rfl) rfl)) ?_
        refine Sm.nx ?_
        refine Sm.sq ?_
        refine Sm.ch (cst_tup (cst_p cst_str cst_int)) fun gauges9 hc => ?_
        subst hc
        refine Sm.ifc ?_
        refine Sm.mNot ?_
        refine Sm.mT ?_
        refine Sm.m1 ?_
        refine Sm.pu (rfl) ?_
        refine Sm.op (os_isK _ _) fun v10 => ?_
        refine Sm.opp rfl ?_
        refine Sm.ifS ?_ ?_
        · intro _
          exact Sm.rsF (rfl) trivial
        · intro _
          refine Sm.nx ?_
          refine Sm.sq ?_
          refine Sm.set ?_
          refine Sm.mCkd ?_
          refine Sm.mCons ?_
          refine Sm.pu (rfl) ?_
          refine Sm.mCons ?_
          refine Sm.mLc ?_
          refine Sm.mIt ?_
          refine Sm.pu (rfl) ?_
          refine Sm.opp (it_t _) ?_
          refine Sm.lcM (ex := (eP D.str D.int)) (ey := D.str) (ρ1 := fun (x11 : Str × Int) => [some (eD self1), some ((eT (eP D.str D.int)) gauges9), some (eD rods3), some (eU ()), some (D.str x11.1), some (D.int x11.2)]) (f := fun (x11 : Str × Int) => x11.1) (fun x11 => rfl) (fun x11 => rfl) ?_ _ fun v12 => ?_
          · exact fun x11 => rfl
          · refine Sm.pu rfl ?_
            refine Sm.pu rfl ?_
            refine Sm.ckK (q_odd_rod rods3 v12) ⟨rfl, rfl, rfl⟩ rfl trivial fun place13 => ?_
            refine Sm.sq ?_
            cases place13 with
            | none =>
              refine Sm.ifpF (mB_ok (m2_ok (rfl) (rfl) rfl)) ?_
              refine Sm.nx ?_
              refine Sm.sq ?_
              refine Sm.ch (cst_tup (cst_p cst_str cst_str)) fun rods14 hc => ?_
              subst hc
              refine Sm.fl ?_
              refine Sm.pu (rfl) ?_
              refine Sm.flK rfl fun self15 => ?_
              refine Sm.fl ?_
              refine Sm.pu (rfl) ?_
              refine Sm.flK rfl fun self16 => ?_
              exact Sm.done (b := self16) ⟨_, .inr ⟨rfl, rfl⟩, rfl⟩
            | some place17 =>
              refine Sm.ifpT (mB_ok (m2_ok (rfl) (rfl) rfl)) ?_
              exact Sm.rsF (rfl) trivial
      | some place18 =>
        refine Sm.ifpT (mB_ok (m2_ok (rfl) (rfl) rfl)) ?_
        exact Sm.rsF (rfl) trivial)
end Law
namespace Law
open PySem PySem.Spec PyProof.Rows L2 G
noncomputable def t_figured (word1 : Str) : O ((Option Int)) :=
  (if decide (word1 = ("" : Str)) = true then O.ok true else ((lcO (fun (x6 : Str) => (inS x6 ("0123456789" : Str)).bind fun v8 =>
  O.ok v8) (sgs word1)).bind fun v9 =>
  O.ok (!(v9.all id)))).bind fun v10 =>
  if v10 = true then
  (O.ok none)
  else
  ((ixS word1 (0 : Int)).bind fun v11 =>
  (if decide (v11 = ("0" : Str)) = true then (O.ok (!decide (word1 = ("0" : Str)))) else O.ok false).bind fun v12 =>
  if v12 = true then
  (O.ok none)
  else
  ((intXO word1).bind fun v13 =>
  O.ok (some v13)))
theorem q_figured (word1 : Str) : FSm MF_f_figured [D.str word1] (fun (b : (Option Int)) => (eO D.int) b) (fun (_ : (Option Int)) => []) (t_figured word1) := FSm.mk (show Sm (fun _ => True) (RT (fun (b : (Option Int)) => (eO D.int) b) (fun (_ : (Option Int)) => []) []) (m_f_figured [some (D.str word1), none]) _ from by
  refine Sm.fin ?_
  refine Sm.sq ?_
  refine Sm.ifc ?_
  refine Sm.mOr ?_
  refine Sm.pu (mB_ok (m2_ok (rfl) (rfl) (ety_str.eq (by decide) word1 ("" : Str)))) ?_
  refine Sm.bd (f := fun z => z) (g := fun _ => [some (D.str word1), none]) ?_ fun v10 => ?_
  · refine Sm.orB (fun _ => ?_) rfl
    refine Sm.ex ?_
    refine Sm.mNot ?_
    refine Sm.mT ?_
    refine Sm.mA ?_
    refine Sm.mCons ?_
    refine Sm.mLc ?_
    refine Sm.mIt ?_
    refine Sm.pu (rfl) ?_
    refine Sm.opp (it_s _) ?_
    refine Sm.lcO (ex := D.str) (ey := D.bl) (ρ1 := fun (x6 : Str) => [some (D.str word1), some (D.str x6)]) (f := fun (x6 : Str) => (inS x6 ("0123456789" : Str)).bind fun v8 =>
      O.ok v8) (fun x6 => rfl) (fun x6 => rfl) ?_ _ fun v9 => ?_
    · intro x6
      refine Sm.ex ?_
      refine Sm.m2 ?_
      refine Sm.pu (rfl) ?_
      refine Sm.pu (rfl) ?_
      refine Sm.op (os_inS _ _) fun v8 => ?_
      exact Sm.done rfl
    · refine Sm.pu rfl ?_
      refine Sm.opp (all_l _) ?_
      refine Sm.opp rfl ?_
      exact Sm.done rfl
  · refine Sm.ifS ?_ ?_
    · intro _
      refine Sm.ret ?_
      refine Sm.pu (rfl) ?_
      exact Sm.done (b := none) ⟨_, rfl, rfl⟩
    · intro _
      refine Sm.nx ?_
      refine Sm.sq ?_
      refine Sm.ifc ?_
      refine Sm.mAnd ?_
      refine Sm.mB ?_
      refine Sm.m2 ?_
      refine Sm.m2 ?_
      refine Sm.pu (rfl) ?_
      refine Sm.pu (rfl) ?_
      refine Sm.op (os_ixS _ _) fun v11 => ?_
      refine Sm.pu (rfl) ?_
      refine Sm.opp (ety_str.eq (by decide) v11 ("0" : Str)) ?_
      refine Sm.opp rfl ?_
      refine Sm.bd (f := fun z => z) (g := fun _ => [some (D.str word1), none]) ?_ fun v12 => ?_
      · refine Sm.andB (fun _ => ?_) rfl
        refine Sm.ex ?_
        refine Sm.pu (mB_ok (m2_ok (rfl) (rfl) (ety_str.ne (by decide) word1 ("0" : Str)))) ?_
        exact Sm.done rfl
      · refine Sm.ifS ?_ ?_
        · intro _
          refine Sm.ret ?_
          refine Sm.pu (rfl) ?_
          exact Sm.done (b := none) ⟨_, rfl, rfl⟩
        · intro _
          refine Sm.nx ?_
          refine Sm.ret ?_
          refine Sm.mA ?_
          refine Sm.mCons ?_
          refine Sm.pu (rfl) ?_
          refine Sm.pu rfl ?_
          refine Sm.op (os_intX _) fun v13 => ?_
          exact Sm.done (b := (some v13)) ⟨_, rfl, rfl⟩)
end Law
namespace Law
open PySem PySem.Spec PyProof.Rows L2 G
noncomputable def t_moor_of (gauges1 : List (Str × (Option Int))) (rods2 : List (Str × Str)) : O (D × (List (Str × (Option Int))) × (List (Str × Str))) :=
  (tryHo (α := Sum (D × (List (Str × (Option Int))) × (List (Str × Str))) (Unit)) ((t_Moor_init (D.obj 0 []) ((eT (eP D.str (eO D.int))) gauges1) ((eT (eP D.str D.str)) rods2)).bind fun v4 =>
  O.ok (Sum.inl (v4, gauges1, rods2))) caught_NoGauges_NoRods (O.ok (Sum.inl ((eU ()), gauges1, rods2)))).bind fun z => match z with
  | .inl v4 => O.ok v4
  | .inr _ =>
  O.no
theorem q_moor_of (gauges1 : List (Str × (Option Int))) (rods2 : List (Str × Str)) : FSm MF_f_moor_of [(eL (eP D.str (eO D.int))) gauges1, (eL (eP D.str D.str)) rods2] (fun (b : D × (List (Str × (Option Int))) × (List (Str × Str))) => eD b.1) (fun (b : D × (List (Str × (Option Int))) × (List (Str × Str))) => [(eL (eP D.str (eO D.int))) b.2.1, (eL (eP D.str D.str)) b.2.2]) (t_moor_of gauges1 rods2) := FSm.mk (show Sm (fun _ => True) (RT (fun (b : D × (List (Str × (Option Int))) × (List (Str × Str))) => eD b.1) (fun (b : D × (List (Str × (Option Int))) × (List (Str × Str))) => [(eL (eP D.str (eO D.int))) b.2.1, (eL (eP D.str D.str)) b.2.2]) [0, 1]) (m_f_moor_of [some ((eL (eP D.str (eO D.int))) gauges1), some ((eL (eP D.str D.str)) rods2)]) _ from by
  refine Sm.fin ?_
  refine Sm.bR (I := fun (z : Unit) (y : Unit) => [some ((eL (eP D.str (eO D.int))) gauges1), some ((eL (eP D.str D.str)) rods2)]) (Q := (RT (fun (b : D × (List (Str × (Option Int))) × (List (Str × Str))) => eD b.1) (fun (b : D × (List (Str × (Option Int))) × (List (Str × Str))) => [(eL (eP D.str (eO D.int))) b.2.1, (eL (eP D.str D.str)) b.2.2]) [0, 1])) ?_ ?_ ?_
  · refine Sm.trH (E1 := fun (y : Unit) => [some ((eL (eP D.str (eO D.int))) gauges1), some ((eL (eP D.str D.str)) rods2)]) SO.ner ?_ (fun _ => trivial) ?_
    · refine Sm.fin ?_
      refine Sm.ret ?_
      refine Sm.mMk ?_
      refine Sm.mCons ?_
      refine Sm.pu (a_ok (cons_ok (rfl) nil_ok) (tuple_l _)) ?_
      refine Sm.pu rfl ?_
      refine Sm.mCons ?_
      refine Sm.pu (a_ok (cons_ok (rfl) nil_ok) (tuple_l _)) ?_
      refine Sm.pu rfl ?_
      refine Sm.mkK (q_Moor_init (D.obj 0 []) ((eT (eP D.str (eO D.int))) gauges1) ((eT (eP D.str D.str)) rods2)) ⟨rfl, rfl, rfl⟩ rfl ⟨(), rfl⟩ fun v4 => ?_
      exact Sm.done (b := (Sum.inl (v4, gauges1, rods2))) (RT.rt ⟨_, rfl, rfl⟩)
    · intro _
      refine Sm.fin ?_
      refine Sm.ret ?_
      refine Sm.pu (rfl) ?_
      exact Sm.done (b := (Sum.inl ((eU ()), gauges1, rods2))) (RT.rt ⟨_, rfl, rfl⟩)
  · intro v4 hv
    exact Sm.done hv
  · intro _
    intro _
    exact Sm.nil)
end Law
namespace Law
open PySem PySem.Spec PyProof.Rows L2 G
noncomputable def t_read_moor (text1 : Str) : O (D) :=
  if (!true) = true then
  (O.er ⟨3, [(D.int (0 : Int))]⟩)
  else
  ((t_Moor_init (D.obj 0 []) (eT eD []) (eT eD [])).bind fun told2 =>
  (opT (dTru (D.str text1))).bind fun v3 =>
  (if v3 = true then ((splO text1 ("\n" : Str)).bind fun v5 =>
  O.ok v5) else (O.ok [])).bind fun v6 =>
  (forN (fun (x32 : Int × Str) ((told33, gauges34, rods35) : D × (List (Str × (Option Int))) × (List (Str × Str))) =>
  (splO x32.2 (" " : Str)).bind fun v36 =>
  (starO v36).bind fun (word37, rest38) =>
  if ((!decide ((rest38.length : Int) = (2 : Int))) || ((!decide (word37 ∈ [(("gauge" : Str), ("rod" : Str)).1, (("gauge" : Str), ("rod" : Str)).2])) || (decide (word37 = ("gauge" : Str)) && (!decide (rods35 = []))))) = true then
  (O.er ⟨3, [(D.int x32.1)]⟩)
  else
  ((if decide (word37 = ("gauge" : Str)) = true then
  ((ixL rest38 (0 : Int)).bind fun v48 =>
  (ixL rest38 (1 : Int)).bind fun v49 =>
  (t_figured v49).bind fun v50 =>
  (appL gauges34 (v48, v50)).bind fun gauges51 =>
  O.ok (gauges51, rods35))
  else
  ((ixL rest38 (0 : Int)).bind fun v52 =>
  (ixL rest38 (1 : Int)).bind fun v53 =>
  (appL rods35 (v52, v53)).bind fun rods54 =>
  O.ok (gauges34, rods54))).bind fun (gauges46, rods47) =>
  (t_moor_of gauges46 rods47).bind fun (told55, gauges56, rods57) =>
  if (isN told55) = true then
  (O.er ⟨3, [(D.int x32.1)]⟩)
  else
  (O.ok (told55, gauges56, rods57)))) (enL v6) (told2, [], [])).bind fun (told29, gauges30, rods31) =>
  O.ok told29)
theorem q_read_moor (text1 : Str) : FSm MF_f_read_moor [D.str text1] (fun (b : D) => eD b) (fun (_ : D) => []) (t_read_moor text1) := FSm.mk (show Sm (fun _ => True) (RT (fun (b : D) => eD b) (fun (_ : D) => []) []) (m_f_read_moor [some (D.str text1), none, none, none, none, none, none, none]) _ from by
  refine Sm.fin ?_
  refine Sm.sq ?_
  refine Sm.ifp (notB_ok (mT_ok (m1_ok (rfl) rfl) rfl)) ?_ ?_
  · intro _
    exact Sm.rsF (rfl) trivial
  · intro _
    refine Sm.nx ?_
    refine Sm.sq ?_
    refine Sm.par ?_
    refine Sm.mCons ?_
    refine Sm.mMk ?_
    refine Sm.pu rfl ?_
    refine Sm.pu rfl ?_
    refine Sm.mkK (q_Moor_init (D.obj 0 []) (eT eD []) (eT eD [])) ⟨rfl, rfl, rfl⟩ rfl trivial fun told2 => ?_
    refine Sm.mCons ?_
    refine Sm.pu (a := (eL eD) []) (lst_ok (nil_ok) (show (0 : Nat) ≤ sizeLine by decide)) ?_
    refine Sm.mCons ?_
    refine Sm.pu (a := (eL eD) []) (lst_ok (nil_ok) (show (0 : Nat) ≤ sizeLine by decide)) ?_
    refine Sm.pu rfl ?_
    refine Sm.sq ?_
    refine Sm.for ?_
    refine Sm.mEn ?_
    refine Sm.mCons ?_
    refine Sm.mIf ?_
    refine Sm.mT ?_
    refine Sm.pu (rfl) ?_
    refine Sm.op os_T fun v3 => ?_
    refine Sm.bd (f := (eL D.str)) (g := fun _ => [some (D.str text1), some (eD told2), some ((eL (eP D.str (eO D.int))) []), some ((eL (eP D.str D.str)) []), none, none, none, none]) ?_ fun v6 => ?_
    · refine Sm.ifK ?_ ?_
      · intro _
        refine Sm.ex ?_
        refine Sm.mSpl ?_
        refine Sm.pu (rfl) ?_
        refine Sm.splK ?_
        refine Sm.pu (rfl) ?_
        refine Sm.op (os_spl _ _) fun v5 => ?_
        exact Sm.done rfl
      · intro _
        refine Sm.ex ?_
        refine Sm.pu (a := (eL eD) []) (lst_ok (nil_ok) (show (0 : Nat) ≤ sizeLine by decide)) ?_
        exact Sm.done rfl
    · refine Sm.pu rfl ?_
      refine Sm.opp (en_fin (sq_l _)) ?_
      refine Sm.bs (I := fun (z : D × (List (Str × (Option Int))) × (List (Str × Str))) (y : (Option D) × (Option D) × (Option D) × (Option D)) => [some (D.str text1), some (eD z.1), some ((eL (eP D.str (eO D.int))) z.2.1), some ((eL (eP D.str D.str)) z.2.2), y.1, y.2.1, y.2.2.1, y.2.2.2]) ?_ ?_
      · refine Sm.forN (e := (eP D.int D.str)) (I := fun (z : D × (List (Str × (Option Int))) × (List (Str × Str))) (y : (Option D) × (Option D) × (Option D) × (Option D)) => [some (D.str text1), some (eD z.1), some ((eL (eP D.str (eO D.int))) z.2.1), some ((eL (eP D.str D.str)) z.2.2), y.1, y.2.1, y.2.2.1, y.2.2.2]) ?_ _ (told2, [], []) (none, none, none, none)
        · intro x32
          intro z_
          refine Prod.rec (fun told33 z_ => ?_) z_
          refine Prod.rec (fun gauges34 rods35 => ?_) z_
          intro j4_5_6_7
          refine Sm.gp rfl ?_
          refine Sm.fin ?_
          refine Sm.sq ?_
          refine Sm.asg ?_
          refine Sm.mSpl ?_
          refine Sm.pu (rfl) ?_
          refine Sm.splK ?_
          refine Sm.pu (rfl) ?_
          refine Sm.op (os_spl _ _) fun v36 => ?_
          refine Sm.star (e := D.str) fun ⟨word37, rest38⟩ => ?_
          refine Sm.sq ?_
          refine Sm.ifp (orB_ok (mB_ok (m2_ok (a_ok (cons_ok (rfl) nil_ok) (len_l _)) (rfl) (ne_ii _ _))) (orB_ok (mB_ok (m2_ok (rfl) (tup_ok (cons_ok (rfl) (cons_ok (rfl) (nil_ok))) (show (2 : Nat) ≤ sizeLine by decide)) (ety_str.ninT (by decide) word37 ([(("gauge" : Str), ("rod" : Str)).1, (("gauge" : Str), ("rod" : Str)).2])))) (andB_ok (mB_ok (m2_ok (rfl) (rfl) (ety_str.eq (by decide) word37 ("gauge" : Str)))) (mB_ok (m2L_okT rfl (lst_ok (nil_ok) (show (0 : Nat) ≤ sizeLine by decide)) ((ety_lst (ety_p ety_str ety_str)).ne (by decide) rods35 [])))))) ?_ ?_
          · intro _
            exact Sm.rsF (rfl) trivial
          · intro _
            refine Sm.nx ?_
            refine Sm.sq ?_
            refine Sm.bs (I := fun (z : (List (Str × (Option Int))) × (List (Str × Str))) (y : Unit) => [some (D.str text1), some (eD told33), some ((eL (eP D.str (eO D.int))) z.1), some ((eL (eP D.str D.str)) z.2), some (D.int x32.1), some (D.str x32.2), some (D.str word37), some ((eL D.str) rest38)]) ?_ ?_
            · refine Sm.fin ?_
              refine Sm.ifp (mB_ok (m2_ok (rfl) (rfl) (ety_str.eq (by decide) word37 ("gauge" : Str)))) ?_ ?_
              · intro _
                refine Sm.exp ?_
                refine Sm.mMl rfl ?_
                refine Sm.mCons ?_
                refine Sm.mTup ?_
                refine Sm.mCons ?_
                refine Sm.m2 ?_
                refine Sm.pu (rfl) ?_
                refine Sm.pu (rfl) ?_
                refine Sm.op (os_ixL _ _) fun v48 => ?_
                refine Sm.mCons ?_
                refine Sm.mCkd ?_
                refine Sm.mCons ?_
                refine Sm.m2 ?_
                refine Sm.pu (rfl) ?_
                refine Sm.pu (rfl) ?_
                refine Sm.op (os_ixL _ _) fun v49 => ?_
                refine Sm.pu rfl ?_
                refine Sm.pu rfl ?_
                refine Sm.ckK (q_figured v49) ⟨rfl, rfl, rfl⟩ rfl trivial fun v50 => ?_
                refine Sm.pu rfl ?_
                refine Sm.opp (d := (eP D.str (eO D.int)) (v48, v50)) (tupIf (n := 2) rfl (by decide)) ?_
                refine Sm.pu rfl ?_
                refine Sm.mlK (f := fun b => (D.non, (eL (eP D.str (eO D.int))) b)) (d := (eL (eP D.str (eO D.int))) gauges34) rfl (os_app (e := (eP D.str (eO D.int))) gauges34 (v48, v50)) fun gauges51 => ?_
                exact Sm.done (b := (gauges51, rods35)) ⟨(), rfl⟩
              · intro _
                refine Sm.exp ?_
                refine Sm.mMl rfl ?_
                refine Sm.mCons ?_
                refine Sm.mTup ?_
                refine Sm.mCons ?_
                refine Sm.m2 ?_
                refine Sm.pu (rfl) ?_
                refine Sm.pu (rfl) ?_
                refine Sm.op (os_ixL _ _) fun v52 => ?_
                refine Sm.mCons ?_
                refine Sm.m2 ?_
                refine Sm.pu (rfl) ?_
                refine Sm.pu (rfl) ?_
                refine Sm.op (os_ixL _ _) fun v53 => ?_
                refine Sm.pu rfl ?_
                refine Sm.opp (d := (eP D.str D.str) (v52, v53)) (tupIf (n := 2) rfl (by decide)) ?_
                refine Sm.pu rfl ?_
                refine Sm.mlK (f := fun b => (D.non, (eL (eP D.str D.str)) b)) (d := (eL (eP D.str D.str)) rods35) rfl (os_app (e := (eP D.str D.str)) rods35 (v52, v53)) fun rods54 => ?_
                exact Sm.done (b := (gauges34, rods54)) ⟨(), rfl⟩
            · intro z_
              refine Prod.rec (fun gauges46 rods47 => ?_) z_
              intro _
              refine Sm.sq ?_
              refine Sm.set ?_
              refine Sm.mCallH ?_
              refine Sm.asc ?_
              refine Sm.pu rfl ?_
              refine Sm.asc ?_
              refine Sm.pu rfl ?_
              refine Sm.pu rfl ?_
              refine Sm.chH (q_moor_of gauges46 rods47) rfl (fun _ => trivial) fun ⟨told55, gauges56, rods57⟩ => ?_
              refine Sm.ifp (mB_ok (m2_ok (rfl) (rfl) (isn_D _))) ?_ ?_
              · intro _
                exact Sm.rsF (rfl) trivial
              · intro _
                refine Sm.nx ?_
                exact Sm.done (b := (told55, gauges56, rods57)) ⟨⟨_, _, _, _⟩, .inl rfl⟩
      · intro z_
        refine Prod.rec (fun told29 z_ => ?_) z_
        refine Prod.rec (fun gauges30 rods31 => ?_) z_
        intro j4_5_6_7
        refine Sm.ret ?_
        refine Sm.pu (rfl) ?_
        exact Sm.done (b := told29) ⟨_, rfl, rfl⟩)
end Law
namespace Law
open PySem PySem.Spec PyProof.Rows L2 G
noncomputable def t_Moor_str (self1 : D) : O (Str) :=
  (atC 0 0 (cT (cP cS cI)) self1).bind fun gauges2 =>
  (lcO (fun (x3 : Str × Int) => (catS Str.empty ("gauge " : Str)).bind fun v10 =>
  (fmS x3.1).bind fun v11 =>
  (catS v10 v11).bind fun v12 =>
  (catS v12 (" " : Str)).bind fun v13 =>
  (opS (dFm (D.int x3.2))).bind fun v14 =>
  (catS v13 v14).bind fun v15 =>
  O.ok v15) gauges2).bind fun v16 =>
  (atC 1 0 (cT (cP cS cS)) self1).bind fun rods17 =>
  (lcO (fun (x18 : Str × Str) => (catS Str.empty ("rod " : Str)).bind fun v25 =>
  (fmS x18.1).bind fun v26 =>
  (catS v25 v26).bind fun v27 =>
  (catS v27 (" " : Str)).bind fun v28 =>
  (fmS x18.2).bind fun v29 =>
  (catS v28 v29).bind fun v30 =>
  O.ok v30) rods17).bind fun v31 =>
  (catL v16 v31).bind fun v32 =>
  (joinO ("\n" : Str) v32).bind fun v33 =>
  O.ok v33
theorem q_Moor_str (self1 : D) : FSm MF_f_Moor_str [eD self1] (fun (b : Str) => D.str b) (fun (_ : Str) => []) (t_Moor_str self1) := FSm.mk (show Sm (fun _ => True) (RT (fun (b : Str) => D.str b) (fun (_ : Str) => []) []) (m_f_Moor_str [some (eD self1), none, none, none, none]) _ from by
  refine Sm.fin ?_
  refine Sm.ret ?_
  refine Sm.mJo ?_
  refine Sm.pu (rfl) ?_
  refine Sm.joK ?_
  refine Sm.m2 ?_
  refine Sm.mLc ?_
  refine Sm.mIt ?_
  refine Sm.m1 ?_
  refine Sm.pu (rfl) ?_
  refine Sm.op (os_atC (cst_tup (cst_p cst_str cst_int))) fun gauges2 => ?_
  refine Sm.opp (it_t _) ?_
  refine Sm.lcO (ex := (eP D.str D.int)) (ey := D.str) (ρ1 := fun (x3 : Str × Int) => [some (eD self1), some (D.str x3.1), some (D.int x3.2), none, none]) (f := fun (x3 : Str × Int) => (catS Str.empty ("gauge " : Str)).bind fun v10 =>
    (fmS x3.1).bind fun v11 =>
    (catS v10 v11).bind fun v12 =>
    (catS v12 (" " : Str)).bind fun v13 =>
    (opS (dFm (D.int x3.2))).bind fun v14 =>
    (catS v13 v14).bind fun v15 =>
    O.ok v15) (fun x3 => rfl) (fun x3 => rfl) ?_ _ fun v16 => ?_
  · intro x3
    refine Sm.ex ?_
    refine Sm.mJn ?_
    refine Sm.js_c ?_
    refine Sm.pu (rfl) ?_
    refine Sm.js_s fun v10 => ?_
    refine Sm.js_c ?_
    refine Sm.m1 ?_
    refine Sm.pu (rfl) ?_
    refine Sm.op (os_fmS _) fun v11 => ?_
    refine Sm.js_s fun v12 => ?_
    refine Sm.js_c ?_
    refine Sm.pu (rfl) ?_
    refine Sm.js_s fun v13 => ?_
    refine Sm.js_c ?_
    refine Sm.m1 ?_
    refine Sm.pu (rfl) ?_
    refine Sm.op os_S fun v14 => ?_
    refine Sm.js_s fun v15 => ?_
    refine Sm.js_n ?_
    exact Sm.done rfl
  · refine Sm.mLc ?_
    refine Sm.mIt ?_
    refine Sm.m1 ?_
    refine Sm.pu (rfl) ?_
    refine Sm.op (os_atC (cst_tup (cst_p cst_str cst_str))) fun rods17 => ?_
    refine Sm.opp (it_t _) ?_
    refine Sm.lcO (ex := (eP D.str D.str)) (ey := D.str) (ρ1 := fun (x18 : Str × Str) => [some (eD self1), none, none, some (D.str x18.1), some (D.str x18.2)]) (f := fun (x18 : Str × Str) => (catS Str.empty ("rod " : Str)).bind fun v25 =>
      (fmS x18.1).bind fun v26 =>
      (catS v25 v26).bind fun v27 =>
      (catS v27 (" " : Str)).bind fun v28 =>
      (fmS x18.2).bind fun v29 =>
      (catS v28 v29).bind fun v30 =>
      O.ok v30) (fun x18 => rfl) (fun x18 => rfl) ?_ _ fun v31 => ?_
    · intro x18
      refine Sm.ex ?_
      refine Sm.mJn ?_
      refine Sm.js_c ?_
      refine Sm.pu (rfl) ?_
      refine Sm.js_s fun v25 => ?_
      refine Sm.js_c ?_
      refine Sm.m1 ?_
      refine Sm.pu (rfl) ?_
      refine Sm.op (os_fmS _) fun v26 => ?_
      refine Sm.js_s fun v27 => ?_
      refine Sm.js_c ?_
      refine Sm.pu (rfl) ?_
      refine Sm.js_s fun v28 => ?_
      refine Sm.js_c ?_
      refine Sm.m1 ?_
      refine Sm.pu (rfl) ?_
      refine Sm.op (os_fmS _) fun v29 => ?_
      refine Sm.js_s fun v30 => ?_
      refine Sm.js_n ?_
      exact Sm.done rfl
    · refine Sm.op (os_catL _ _) fun v32 => ?_
      refine Sm.op (os_joinL _ _) fun v33 => ?_
      exact Sm.done (b := v33) ⟨_, rfl, rfl⟩)
end Law
namespace Law
open PySem PySem.Spec PyProof.Rows L2 G
noncomputable def t_law_found (lines1 : Str) : O ((List D)) :=
  (tryX (α := Sum ((List D)) (D)) ((t_read_moor lines1).bind fun told6 =>
  O.ok (Sum.inr told6)) caught_NoText (fun x2 => (xfC xg_row cD x2).bind fun row7 =>
  O.ok (Sum.inl ([(D.str ((("none" : Str), row7).1)), (("none" : Str), row7).2])))).bind fun z => match z with
  | .inl v7 => O.ok v7
  | .inr told5 =>
  (isC 0 told5).bind fun v9 =>
  (if (!v9) = true then O.ok true else ((isO 0 told5).bind fun _ => (noX (t_Moor_str told5)).bind fun v11 =>
  O.ok (!decide (v11 = lines1)))).bind fun v12 =>
  if v12 = true then
  (O.ok ([(D.str ((("other" : Str), lines1).1)), (D.str ((("other" : Str), lines1).2))]))
  else
  ((atC 0 0 (cT (cP cS cI)) told5).bind fun gauges13 =>
  (atC 1 0 (cT (cP cS cS)) told5).bind fun rods14 =>
  O.ok ([(D.str ((("read" : Str), gauges13, rods14).1)), ((eT (eP D.str D.int)) ((("read" : Str), gauges13, rods14).2.1)), ((eT (eP D.str D.str)) ((("read" : Str), gauges13, rods14).2.2))]))
theorem q_law_found (lines1 : Str) : FSm MF_f_law_found [D.str lines1] (fun (b : (List D)) => (eT eD) b) (fun (_ : (List D)) => []) (t_law_found lines1) := FSm.mk (show Sm (fun _ => True) (RT (fun (b : (List D)) => (eT eD) b) (fun (_ : (List D)) => []) []) (m_f_law_found [some (D.str lines1), none, none]) _ from by
  refine Sm.fin ?_
  refine Sm.sq ?_
  refine Sm.set ?_
  refine Sm.pu (rfl) ?_
  refine Sm.sq ?_
  refine Sm.bR (I := fun (z : D) (y : Unit) => [some (D.str lines1), some (eD z), none]) (Q := (RT (fun (b : (List D)) => (eT eD) b) (fun (_ : (List D)) => []) [])) ?_ ?_ ?_
  · refine Sm.trA (E1 := fun (y : (Option D)) => [some (D.str lines1), y, none]) SO.ner ?_ (fun _ => trivial) ?_
    · refine Sm.fin ?_
      refine Sm.set ?_
      refine Sm.mCkd ?_
      refine Sm.mCons ?_
      refine Sm.pu (rfl) ?_
      refine Sm.pu rfl ?_
      refine Sm.pu rfl ?_
      refine Sm.ckK (q_read_moor lines1) ⟨rfl, rfl, rfl⟩ rfl ⟨_, rfl⟩ fun told6 => ?_
      exact Sm.done (b := (Sum.inr told6)) ⟨(), rfl⟩
    · intro x2 j1
      refine Sm.fin ?_
      refine Sm.ret ?_
      refine Sm.mTup ?_
      refine Sm.mCons ?_
      refine Sm.pu (rfl) ?_
      refine Sm.mCons ?_
      refine Sm.m1 ?_
      refine Sm.pu (rfl) ?_
      refine Sm.op (os_xfC cst_d) fun row7 => ?_
      refine Sm.pu rfl ?_
      refine Sm.opp (d := (eP D.str eD) (("none" : Str), row7)) (tupIf (n := 2) rfl (by decide)) ?_
      exact Sm.done (b := (Sum.inl ([(D.str ((("none" : Str), row7).1)), (("none" : Str), row7).2]))) (RT.rt ⟨_, rfl, rfl⟩)
  · intro v7 hv
    exact Sm.done hv
  · intro told5
    intro _
    refine Sm.sq ?_
    refine Sm.ifc ?_
    refine Sm.mOr ?_
    refine Sm.mNot ?_
    refine Sm.mT ?_
    refine Sm.m1 ?_
    refine Sm.pu (rfl) ?_
    refine Sm.op os_B fun v9 => ?_
    refine Sm.opp rfl ?_
    refine Sm.bd (f := fun z => z) (g := fun _ => [some (D.str lines1), some (eD told5), none]) ?_ fun v12 => ?_
    · refine Sm.orB (fun _ => ?_) rfl
      refine Sm.ex ?_
      refine Sm.mB ?_
      refine Sm.m2 ?_
      refine Sm.mStrO ?_
      refine Sm.pu (rfl) ?_
      refine Sm.strOK (q_Moor_str told5) fun v11 => ?_
      refine Sm.pu (rfl) ?_
      refine Sm.opp (ety_str.ne (by decide) v11 lines1) ?_
      refine Sm.opp rfl ?_
      exact Sm.done rfl
    · refine Sm.ifS ?_ ?_
      · intro _
        refine Sm.ret ?_
        refine Sm.pu (a := (eP D.str D.str) (("other" : Str), lines1)) (tup_ok (cons_ok (rfl) (cons_ok (rfl) (nil_ok))) (show (2 : Nat) ≤ sizeLine by decide)) ?_
        exact Sm.done (b := ([(D.str ((("other" : Str), lines1).1)), (D.str ((("other" : Str), lines1).2))])) ⟨_, rfl, rfl⟩
      · intro _
        refine Sm.nx ?_
        refine Sm.ret ?_
        refine Sm.mTup ?_
        refine Sm.mCons ?_
        refine Sm.pu (rfl) ?_
        refine Sm.mCons ?_
        refine Sm.m1 ?_
        refine Sm.pu (rfl) ?_
        refine Sm.op (os_atC (cst_tup (cst_p cst_str cst_int))) fun gauges13 => ?_
        refine Sm.mCons ?_
        refine Sm.m1 ?_
        refine Sm.pu (rfl) ?_
        refine Sm.op (os_atC (cst_tup (cst_p cst_str cst_str))) fun rods14 => ?_
        refine Sm.pu rfl ?_
        refine Sm.opp (d := (eP3 D.str (eT (eP D.str D.int)) (eT (eP D.str D.str))) (("read" : Str), gauges13, rods14)) (tupIf (n := 3) rfl (by decide)) ?_
        exact Sm.done (b := ([(D.str ((("read" : Str), gauges13, rods14).1)), ((eT (eP D.str D.int)) ((("read" : Str), gauges13, rods14).2.1)), ((eT (eP D.str D.str)) ((("read" : Str), gauges13, rods14).2.2))])) ⟨_, rfl, rfl⟩)
end Law
namespace Law
open PySem PySem.Spec PyProof.Rows L2 G
noncomputable def t_law_is_call (word1 : Str) : O (Bool) :=
  (lenS word1).bind fun v2 =>
  (if decide ((0 : Int) < v2) = true then O.ok (decide (v2 < (7 : Int))) else O.ok false).bind fun v3 =>
  (if v3 = true then ((lcO (fun (x8 : Str) => (inS x8 ("abcdefghijklmnopqrstuvwxyz" : Str)).bind fun v10 =>
  O.ok v10) (sgs word1)).bind fun v11 =>
  O.ok (v11.all id)) else O.ok false).bind fun v12 =>
  O.ok v12
theorem q_law_is_call (word1 : Str) : FSm MF_f_law_is_call [D.str word1] (fun (b : Bool) => D.bl b) (fun (_ : Bool) => []) (t_law_is_call word1) := FSm.mk (show Sm (fun _ => True) (RT (fun (b : Bool) => D.bl b) (fun (_ : Bool) => []) []) (m_f_law_is_call [some (D.str word1), none]) _ from by
  refine Sm.fin ?_
  refine Sm.ret ?_
  refine Sm.mAndV ?_
  refine Sm.mCh ?_
  refine Sm.pu (rfl) ?_
  refine Sm.mA ?_
  refine Sm.mCons ?_
  refine Sm.pu (rfl) ?_
  refine Sm.pu rfl ?_
  refine Sm.op (os_lenS _) fun v2 => ?_
  refine Sm.opp (lt_ii _ _) ?_
  refine Sm.bd (f := D.bl) (g := fun _ => [some (D.str word1), none]) ?_ fun v3 => ?_
  · refine Sm.chK (fun _ => ?_) rfl
    refine Sm.pu (rfl) ?_
    refine Sm.ex ?_
    refine Sm.opp (lt_ii _ _) ?_
    exact Sm.done rfl
  · refine Sm.bd (f := D.bl) (g := fun _ => [some (D.str word1), none]) ?_ fun v12 => ?_
    · refine Sm.andK (fun _ => ?_) rfl
      refine Sm.ex ?_
      refine Sm.mA ?_
      refine Sm.mCons ?_
      refine Sm.mLc ?_
      refine Sm.mIt ?_
      refine Sm.pu (rfl) ?_
      refine Sm.opp (it_s _) ?_
      refine Sm.lcO (ex := D.str) (ey := D.bl) (ρ1 := fun (x8 : Str) => [some (D.str word1), some (D.str x8)]) (f := fun (x8 : Str) => (inS x8 ("abcdefghijklmnopqrstuvwxyz" : Str)).bind fun v10 =>
        O.ok v10) (fun x8 => rfl) (fun x8 => rfl) ?_ _ fun v11 => ?_
      · intro x8
        refine Sm.ex ?_
        refine Sm.m2 ?_
        refine Sm.pu (rfl) ?_
        refine Sm.pu (rfl) ?_
        refine Sm.op (os_inS _ _) fun v10 => ?_
        exact Sm.done rfl
      · refine Sm.pu rfl ?_
        refine Sm.opp (all_l _) ?_
        exact Sm.done rfl
    · exact Sm.done (b := v12) ⟨_, rfl, rfl⟩)
end Law
namespace Law
open PySem PySem.Spec PyProof.Rows L2 G
noncomputable def t_law_is_high (word1 : Str) : O (Bool) :=
  (if decide (word1 = ("" : Str)) = true then O.ok true else ((lenS word1).bind fun v12 =>
  (if decide ((10 : Int) < v12) = true then O.ok true else ((lcO (fun (x17 : Str) => (inS x17 ("0123456789" : Str)).bind fun v19 =>
  O.ok v19) (sgs word1)).bind fun v20 =>
  O.ok (!(v20.all id)))).bind fun v21 =>
  O.ok v21)).bind fun v22 =>
  if v22 = true then
  (O.ok false)
  else
  ((intXO word1).bind fun v23 =>
  (opS (dStr [(D.int v23)])).bind fun v24 =>
  (if decide (v24 = word1) = true then ((intXO word1).bind fun v26 =>
  O.ok (decide (v26 ≤ (1000000000 : Int)))) else O.ok false).bind fun v27 =>
  O.ok v27)
theorem q_law_is_high (word1 : Str) : FSm MF_f_law_is_high [D.str word1] (fun (b : Bool) => D.bl b) (fun (_ : Bool) => []) (t_law_is_high word1) := FSm.mk (show Sm (fun _ => True) (RT (fun (b : Bool) => D.bl b) (fun (_ : Bool) => []) []) (m_f_law_is_high [some (D.str word1), none]) _ from by
  refine Sm.fin ?_
  refine Sm.sq ?_
  refine Sm.ifc ?_
  refine Sm.mOr ?_
  refine Sm.pu (mB_ok (m2_ok (rfl) (rfl) (ety_str.eq (by decide) word1 ("" : Str)))) ?_
  refine Sm.bd (f := fun z => z) (g := fun _ => [some (D.str word1), none]) ?_ fun v22 => ?_
  · refine Sm.orB (fun _ => ?_) rfl
    refine Sm.ex ?_
    refine Sm.mOr ?_
    refine Sm.mB ?_
    refine Sm.m2 ?_
    refine Sm.mA ?_
    refine Sm.mCons ?_
    refine Sm.pu (rfl) ?_
    refine Sm.pu rfl ?_
    refine Sm.op (os_lenS _) fun v12 => ?_
    refine Sm.pu (rfl) ?_
    refine Sm.opp (gt_ii _ _) ?_
    refine Sm.opp rfl ?_
    refine Sm.bd (f := fun z => z) (g := fun _ => [some (D.str word1), none]) ?_ fun v21 => ?_
    · refine Sm.orB (fun _ => ?_) rfl
      refine Sm.ex ?_
      refine Sm.mNot ?_
      refine Sm.mT ?_
      refine Sm.mA ?_
      refine Sm.mCons ?_
      refine Sm.mLc ?_
      refine Sm.mIt ?_
      refine Sm.pu (rfl) ?_
      refine Sm.opp (it_s _) ?_
      refine Sm.lcO (ex := D.str) (ey := D.bl) (ρ1 := fun (x17 : Str) => [some (D.str word1), some (D.str x17)]) (f := fun (x17 : Str) => (inS x17 ("0123456789" : Str)).bind fun v19 =>
        O.ok v19) (fun x17 => rfl) (fun x17 => rfl) ?_ _ fun v20 => ?_
      · intro x17
        refine Sm.ex ?_
        refine Sm.m2 ?_
        refine Sm.pu (rfl) ?_
        refine Sm.pu (rfl) ?_
        refine Sm.op (os_inS _ _) fun v19 => ?_
        exact Sm.done rfl
      · refine Sm.pu rfl ?_
        refine Sm.opp (all_l _) ?_
        refine Sm.opp rfl ?_
        exact Sm.done rfl
    · exact Sm.done rfl
  · refine Sm.ifS ?_ ?_
    · intro _
      refine Sm.ret ?_
      refine Sm.pu (rfl) ?_
      exact Sm.done (b := false) ⟨_, rfl, rfl⟩
    · intro _
      refine Sm.nx ?_
      refine Sm.ret ?_
      refine Sm.mAndV ?_
      refine Sm.m2 ?_
      refine Sm.mA ?_
      refine Sm.mCons ?_
      refine Sm.mA ?_
      refine Sm.mCons ?_
      refine Sm.pu (rfl) ?_
      refine Sm.pu rfl ?_
      refine Sm.op (os_intX _) fun v23 => ?_
      refine Sm.pu rfl ?_
      refine Sm.op os_S fun v24 => ?_
      refine Sm.pu (rfl) ?_
      refine Sm.opp (ety_str.eq (by decide) v24 word1) ?_
      refine Sm.bd (f := D.bl) (g := fun _ => [some (D.str word1), none]) ?_ fun v27 => ?_
      · refine Sm.andK (fun _ => ?_) rfl
        refine Sm.ex ?_
        refine Sm.m2 ?_
        refine Sm.mA ?_
        refine Sm.mCons ?_
        refine Sm.pu (rfl) ?_
        refine Sm.pu rfl ?_
        refine Sm.op (os_intX _) fun v26 => ?_
        refine Sm.pu (a := D.int (1000000000 : Int)) (m2_ok (rfl) (rfl) (show dPw (.int 10) (.int 9) = some (.int 1000000000) by simp [dPw, dInt, CPow])) ?_
        refine Sm.opp (le_ii _ _) ?_
        exact Sm.done rfl
      · exact Sm.done (b := v27) ⟨_, rfl, rfl⟩)
end Law
namespace Law
open PySem PySem.Spec PyProof.Rows L2 G
noncomputable def t_law_adds (words1 : List Str) (known2 : List (Str × Int)) (pairs3 : List (Str × Str)) : O (Bool × (List (Str × Int)) × (List (Str × Str))) :=
  if (!decide ((words1.length : Int) = (3 : Int))) = true then
  (O.ok (false, known2, pairs3))
  else
  ((ixL words1 (0 : Int)).bind fun v4 =>
  if decide (v4 = ("gauge" : Str)) = true then
  ((if decide (known2 = []) = true then O.ok true else ((ixL words1 (1 : Int)).bind fun v7 =>
  (ixL known2 (-(1 : Int))).bind fun v8 =>
  O.ok (lt PyData.str v8.1 v7))).bind fun fresh9 =>
  (if decide (pairs3 = []) = true then ((if decide ((known2.length : Int) < (12 : Int)) = true then ((if fresh9 = true then ((ixL words1 (1 : Int)).bind fun v63 =>
  (t_law_is_call v63).bind fun v64 =>
  (if v64 = true then ((ixL words1 (2 : Int)).bind fun v67 =>
  (t_law_is_high v67).bind fun v68 =>
  O.ok v68) else O.ok false).bind fun v69 =>
  O.ok v69) else O.ok false).bind fun v70 =>
  O.ok v70) else O.ok false).bind fun v71 =>
  O.ok v71) else O.ok false).bind fun v72 =>
  O.ok (v72, known2, pairs3))
  else
  ((ixL words1 (0 : Int)).bind fun v73 =>
  (if (!decide (v73 = ("rod" : Str))) = true then O.ok true else ((ixL words1 (1 : Int)).bind fun v76 =>
  (ixL words1 (2 : Int)).bind fun v77 =>
  O.ok (!(lt PyData.str v76 v77)))).bind fun v78 =>
  if v78 = true then
  (O.ok (false, known2, pairs3))
  else
  ((lcM (fun (x79 : Str × Int) => x79.1) known2).bind fun calls80 =>
  (ixL words1 (1 : Int)).bind fun v81 =>
  (if (!decide (v81 ∈ calls80)) = true then O.ok true else ((ixL words1 (2 : Int)).bind fun v83 =>
  O.ok (!decide (v83 ∈ calls80)))).bind fun v84 =>
  if v84 = true then
  (O.ok (false, known2, pairs3))
  else
  ((if decide (pairs3 = []) = true then O.ok true else ((ixL pairs3 (-(1 : Int))).bind fun v88 =>
  (ixL words1 (1 : Int)).bind fun v89 =>
  (ixL words1 (2 : Int)).bind fun v90 =>
  O.ok (lt (pP PyData.str PyData.str) v88 (v89, v90)))).bind fun v91 =>
  O.ok (v91, known2, pairs3)))))
theorem q_law_adds (words1 : List Str) (known2 : List (Str × Int)) (pairs3 : List (Str × Str)) : FSm MF_f_law_adds [(eL D.str) words1, (eL (eP D.str D.int)) known2, (eL (eP D.str D.str)) pairs3] (fun (b : Bool × (List (Str × Int)) × (List (Str × Str))) => D.bl b.1) (fun (b : Bool × (List (Str × Int)) × (List (Str × Str))) => [(eL (eP D.str D.int)) b.2.1, (eL (eP D.str D.str)) b.2.2]) (t_law_adds words1 known2 pairs3) := FSm.mk (show Sm (fun _ => True) (RT (fun (b : Bool × (List (Str × Int)) × (List (Str × Str))) => D.bl b.1) (fun (b : Bool × (List (Str × Int)) × (List (Str × Str))) => [(eL (eP D.str D.int)) b.2.1, (eL (eP D.str D.str)) b.2.2]) [1, 2]) (m_f_law_adds [some ((eL D.str) words1), some ((eL (eP D.str D.int)) known2), some ((eL (eP D.str D.str)) pairs3), none, none, none]) _ from by
  refine Sm.fin ?_
  refine Sm.sq ?_
  refine Sm.ifp (mB_ok (m2_ok (a_ok (cons_ok (rfl) nil_ok) (len_l _)) (rfl) (ne_ii _ _))) ?_ ?_
  · intro _
    refine Sm.ret ?_
    refine Sm.pu (rfl) ?_
    exact Sm.done (b := (false, known2, pairs3)) ⟨_, rfl, rfl⟩
  · intro _
    refine Sm.nx ?_
    refine Sm.sq ?_
    refine Sm.ifc ?_
    refine Sm.mB ?_
    refine Sm.m2 ?_
    refine Sm.m2 ?_
    refine Sm.pu (rfl) ?_
    refine Sm.pu (rfl) ?_
    refine Sm.op (os_ixL _ _) fun v4 => ?_
    refine Sm.pu (rfl) ?_
    refine Sm.opp (ety_str.eq (by decide) v4 ("gauge" : Str)) ?_
    refine Sm.opp rfl ?_
    refine Sm.ifS ?_ ?_
    · intro _
      refine Sm.sq ?_
      refine Sm.set ?_
      refine Sm.mOrV ?_
      refine Sm.pu (m2L_okT rfl (lst_ok (nil_ok) (show (0 : Nat) ≤ sizeLine by decide)) ((ety_lst (ety_p ety_str ety_int)).eq (by decide) known2 [])) ?_
      refine Sm.bd (f := D.bl) (g := fun _ => [some ((eL D.str) words1), some ((eL (eP D.str D.int)) known2), some ((eL (eP D.str D.str)) pairs3), none, none, none]) ?_ fun fresh9 => ?_
      · refine Sm.orK (fun _ => ?_) rfl
        refine Sm.ex ?_
        refine Sm.m2 ?_
        refine Sm.m2 ?_
        refine Sm.pu (rfl) ?_
        refine Sm.pu (rfl) ?_
        refine Sm.op (os_ixL _ _) fun v7 => ?_
        refine Sm.m2 ?_
        refine Sm.m2L ?_
        refine Sm.pu rfl ?_
        refine Sm.pu (a := D.int (-(1 : Int))) (m1_ok (rfl) (neg_i _)) ?_
        refine Sm.pu rfl ?_
        refine Sm.op (os_ixL _ _) fun v8 => ?_
        refine Sm.pu (rfl) ?_
        refine Sm.opp rfl ?_
        refine Sm.opp (ety_str.gt (by decide) v7 v8.1) ?_
        exact Sm.done rfl
      · refine Sm.ret ?_
        refine Sm.mAndV ?_
        refine Sm.pu (m2L_okT rfl (lst_ok (nil_ok) (show (0 : Nat) ≤ sizeLine by decide)) ((ety_lst (ety_p ety_str ety_str)).eq (by decide) pairs3 [])) ?_
        refine Sm.bd (f := D.bl) (g := fun _ => [some ((eL D.str) words1), some ((eL (eP D.str D.int)) known2), some ((eL (eP D.str D.str)) pairs3), some (D.bl fresh9), none, none]) ?_ fun v72 => ?_
        · refine Sm.andK (fun _ => ?_) rfl
          refine Sm.ex ?_
          refine Sm.mAndV ?_
          refine Sm.pu (m2_ok (a_ok (cons_ok (rfl) nil_ok) (len_l _)) (rfl) (lt_ii _ _)) ?_
          refine Sm.bd (f := D.bl) (g := fun _ => [some ((eL D.str) words1), some ((eL (eP D.str D.int)) known2), some ((eL (eP D.str D.str)) pairs3), some (D.bl fresh9), none, none]) ?_ fun v71 => ?_
          · refine Sm.andK (fun _ => ?_) rfl
            refine Sm.ex ?_
            refine Sm.mAndV ?_
            refine Sm.pu (rfl) ?_
            refine Sm.bd (f := D.bl) (g := fun _ => [some ((eL D.str) words1), some ((eL (eP D.str D.int)) known2), some ((eL (eP D.str D.str)) pairs3), some (D.bl fresh9), none, none]) ?_ fun v70 => ?_
            · refine Sm.andK (fun _ => ?_) rfl
              refine Sm.ex ?_
              refine Sm.mAndV ?_
              refine Sm.mCkd ?_
              refine Sm.mCons ?_
              refine Sm.m2 ?_
              refine Sm.pu (rfl) ?_
              refine Sm.pu (rfl) ?_
              refine Sm.op (os_ixL _ _) fun v63 => ?_
              refine Sm.pu rfl ?_
              refine Sm.pu rfl ?_
              refine Sm.ckK (q_law_is_call v63) ⟨rfl, rfl, rfl⟩ rfl trivial fun v64 => ?_
              refine Sm.bd (f := D.bl) (g := fun _ => [some ((eL D.str) words1), some ((eL (eP D.str D.int)) known2), some ((eL (eP D.str D.str)) pairs3), some (D.bl fresh9), none, none]) ?_ fun v69 => ?_
              · refine Sm.andK (fun _ => ?_) rfl
                refine Sm.ex ?_
                refine Sm.mCkd ?_
                refine Sm.mCons ?_
                refine Sm.m2 ?_
                refine Sm.pu (rfl) ?_
                refine Sm.pu (rfl) ?_
                refine Sm.op (os_ixL _ _) fun v67 => ?_
                refine Sm.pu rfl ?_
                refine Sm.pu rfl ?_
                refine Sm.ckK (q_law_is_high v67) ⟨rfl, rfl, rfl⟩ rfl trivial fun v68 => ?_
                exact Sm.done rfl
              · exact Sm.done rfl
            · exact Sm.done rfl
          · exact Sm.done rfl
        · exact Sm.done (b := (v72, known2, pairs3)) ⟨_, rfl, rfl⟩
    · intro _
      refine Sm.nx ?_
      refine Sm.sq ?_
      refine Sm.ifc ?_
      refine Sm.mOr ?_
      refine Sm.mB ?_
      refine Sm.m2 ?_
      refine Sm.m2 ?_
      refine Sm.pu (rfl) ?_
      refine Sm.pu (rfl) ?_
      refine Sm.op (os_ixL _ _) fun v73 => ?_
      refine Sm.pu (rfl) ?_
      refine Sm.opp (ety_str.ne (by decide) v73 ("rod" : Str)) ?_
      refine Sm.opp rfl ?_
      refine Sm.bd (f := fun z => z) (g := fun _ => [some ((eL D.str) words1), some ((eL (eP D.str D.int)) known2), some ((eL (eP D.str D.str)) pairs3), none, none, none]) ?_ fun v78 => ?_
      · refine Sm.orB (fun _ => ?_) rfl
        refine Sm.ex ?_
        refine Sm.mNot ?_
        refine Sm.mB ?_
        refine Sm.m2 ?_
        refine Sm.m2 ?_
        refine Sm.pu (rfl) ?_
        refine Sm.pu (rfl) ?_
        refine Sm.op (os_ixL _ _) fun v76 => ?_
        refine Sm.m2 ?_
        refine Sm.pu (rfl) ?_
        refine Sm.pu (rfl) ?_
        refine Sm.op (os_ixL _ _) fun v77 => ?_
        refine Sm.opp (ety_str.lt (by decide) v76 v77) ?_
        refine Sm.opp rfl ?_
        exact Sm.done rfl
      · refine Sm.ifS ?_ ?_
        · intro _
          refine Sm.ret ?_
          refine Sm.pu (rfl) ?_
          exact Sm.done (b := (false, known2, pairs3)) ⟨_, rfl, rfl⟩
        · intro _
          refine Sm.nx ?_
          refine Sm.sq ?_
          refine Sm.set ?_
          refine Sm.mLc ?_
          refine Sm.mOw (e := (eP D.str D.int)) (xs := known2) rfl ?_
          refine Sm.lcM (ex := (eP D.str D.int)) (ey := D.str) (ρ1 := fun (x79 : Str × Int) => [some ((eL D.str) words1), some ((eL (eP D.str D.int)) known2), some ((eL (eP D.str D.str)) pairs3), none, none, some ((eP D.str D.int) x79)]) (f := fun (x79 : Str × Int) => x79.1) (fun x79 => rfl) (fun x79 => rfl) ?_ _ fun calls80 => ?_
          · exact fun x79 => m2_ok (rfl) (rfl) rfl
          · refine Sm.sq ?_
            refine Sm.ifc ?_
            refine Sm.mOr ?_
            refine Sm.mB ?_
            refine Sm.m2 ?_
            refine Sm.m2 ?_
            refine Sm.pu (rfl) ?_
            refine Sm.pu (rfl) ?_
            refine Sm.op (os_ixL _ _) fun v81 => ?_
            refine Sm.pu (rfl) ?_
            refine Sm.opp (ety_str.ninL (by decide) v81 calls80) ?_
            refine Sm.opp rfl ?_
            refine Sm.bd (f := fun z => z) (g := fun _ => [some ((eL D.str) words1), some ((eL (eP D.str D.int)) known2), some ((eL (eP D.str D.str)) pairs3), none, some ((eL D.str) calls80), none]) ?_ fun v84 => ?_
            · refine Sm.orB (fun _ => ?_) rfl
              refine Sm.ex ?_
              refine Sm.mB ?_
              refine Sm.m2 ?_
              refine Sm.m2 ?_
              refine Sm.pu (rfl) ?_
              refine Sm.pu (rfl) ?_
              refine Sm.op (os_ixL _ _) fun v83 => ?_
              refine Sm.pu (rfl) ?_
              refine Sm.opp (ety_str.ninL (by decide) v83 calls80) ?_
              refine Sm.opp rfl ?_
              exact Sm.done rfl
            · refine Sm.ifS ?_ ?_
              · intro _
                refine Sm.ret ?_
                refine Sm.pu (rfl) ?_
                exact Sm.done (b := (false, known2, pairs3)) ⟨_, rfl, rfl⟩
              · intro _
                refine Sm.nx ?_
                refine Sm.ret ?_
                refine Sm.mOrV ?_
                refine Sm.pu (m2L_okT rfl (lst_ok (nil_ok) (show (0 : Nat) ≤ sizeLine by decide)) ((ety_lst (ety_p ety_str ety_str)).eq (by decide) pairs3 [])) ?_
                refine Sm.bd (f := D.bl) (g := fun _ => [some ((eL D.str) words1), some ((eL (eP D.str D.int)) known2), some ((eL (eP D.str D.str)) pairs3), none, some ((eL D.str) calls80), none]) ?_ fun v91 => ?_
                · refine Sm.orK (fun _ => ?_) rfl
                  refine Sm.ex ?_
                  refine Sm.m2 ?_
                  refine Sm.m2L ?_
                  refine Sm.pu rfl ?_
                  refine Sm.pu (a := D.int (-(1 : Int))) (m1_ok (rfl) (neg_i _)) ?_
                  refine Sm.pu rfl ?_
                  refine Sm.op (os_ixL _ _) fun v88 => ?_
                  refine Sm.mTup ?_
                  refine Sm.mCons ?_
                  refine Sm.m2 ?_
                  refine Sm.pu (rfl) ?_
                  refine Sm.pu (rfl) ?_
                  refine Sm.op (os_ixL _ _) fun v89 => ?_
                  refine Sm.mCons ?_
                  refine Sm.m2 ?_
                  refine Sm.pu (rfl) ?_
                  refine Sm.pu (rfl) ?_
                  refine Sm.op (os_ixL _ _) fun v90 => ?_
                  refine Sm.pu rfl ?_
                  refine Sm.opp (d := (eP D.str D.str) (v89, v90)) (tupIf (n := 2) rfl (by decide)) ?_
                  refine Sm.opp ((ety_p ety_str ety_str).lt (by decide) v88 (v89, v90)) ?_
                  exact Sm.done rfl
                · exact Sm.done (b := (v91, known2, pairs3)) ⟨_, rfl, rfl⟩)
end Law
namespace Law
open PySem PySem.Spec PyProof.Rows L2 G
noncomputable def t_law_due (lines1 : Str) : O ((List D)) :=
  (if (!decide (lines1 = ("" : Str))) = true then ((splO lines1 ("\n" : Str)).bind fun v3 =>
  O.ok v3) else (O.ok [])).bind fun v4 =>
  (forR (ρ := (List D)) (fun (x29 : Int × Str) ((known30, pairs31) : (List (Str × Int)) × (List (Str × Str))) =>
  (splO x29.2 (" " : Str)).bind fun words32 =>
  (t_law_adds words32 known30 pairs31).bind fun (v33, known34, pairs35) =>
  if (!v33) = true then
  (O.ok (Stp.rt ([(D.str ((("none" : Str), x29.1).1)), (D.int ((("none" : Str), x29.1).2))])))
  else
  (((ixL words32 (0 : Int)).bind fun v46 =>
  if decide (v46 = ("gauge" : Str)) = true then
  ((ixL words32 (1 : Int)).bind fun v47 =>
  (ixL words32 (2 : Int)).bind fun v48 =>
  (intXO v48).bind fun v49 =>
  (appL known34 (v47, v49)).bind fun known50 =>
  O.ok (known50, pairs35))
  else
  ((ixL words32 (1 : Int)).bind fun v51 =>
  (ixL words32 (2 : Int)).bind fun v52 =>
  (appL pairs35 (v51, v52)).bind fun pairs53 =>
  O.ok (known34, pairs53))).bind fun (known44, pairs45) =>
  O.ok (Stp.on (known44, pairs45)))) (enL v4) ([], [])).bind fun z => match z with
  | .inl v53 => O.ok v53
  | .inr (known27, pairs28) =>
  O.ok ([(D.str ((("read" : Str), known27, pairs28).1)), ((eT (eP D.str D.int)) ((("read" : Str), known27, pairs28).2.1)), ((eT (eP D.str D.str)) ((("read" : Str), known27, pairs28).2.2))])
theorem q_law_due (lines1 : Str) : FSm MF_f_law_due [D.str lines1] (fun (b : (List D)) => (eT eD) b) (fun (_ : (List D)) => []) (t_law_due lines1) := FSm.mk (show Sm (fun _ => True) (RT (fun (b : (List D)) => (eT eD) b) (fun (_ : (List D)) => []) []) (m_f_law_due [some (D.str lines1), none, none, none, none, none]) _ from by
  refine Sm.fin ?_
  refine Sm.sq ?_
  refine Sm.par ?_
  refine Sm.mCons ?_
  refine Sm.pu (a := (eL eD) []) (lst_ok (nil_ok) (show (0 : Nat) ≤ sizeLine by decide)) ?_
  refine Sm.mCons ?_
  refine Sm.pu (a := (eL eD) []) (lst_ok (nil_ok) (show (0 : Nat) ≤ sizeLine by decide)) ?_
  refine Sm.pu rfl ?_
  refine Sm.sq ?_
  refine Sm.for ?_
  refine Sm.mEn ?_
  refine Sm.mCons ?_
  refine Sm.mIf ?_
  refine Sm.pu (mB_ok (m2_ok (rfl) (rfl) (ety_str.ne (by decide) lines1 ("" : Str)))) ?_
  refine Sm.bd (f := (eL D.str)) (g := fun _ => [some (D.str lines1), some ((eL (eP D.str D.int)) []), some ((eL (eP D.str D.str)) []), none, none, none]) ?_ fun v4 => ?_
  · refine Sm.ifK ?_ ?_
    · intro _
      refine Sm.ex ?_
      refine Sm.mSpl ?_
      refine Sm.pu (rfl) ?_
      refine Sm.splK ?_
      refine Sm.pu (rfl) ?_
      refine Sm.op (os_spl _ _) fun v3 => ?_
      exact Sm.done rfl
    · intro _
      refine Sm.ex ?_
      refine Sm.pu (a := (eL eD) []) (lst_ok (nil_ok) (show (0 : Nat) ≤ sizeLine by decide)) ?_
      exact Sm.done rfl
  · refine Sm.pu rfl ?_
    refine Sm.opp (en_fin (sq_l _)) ?_
    refine Sm.bR (I := fun (z : (List (Str × Int)) × (List (Str × Str))) (y : (Option D) × (Option D) × (Option D)) => [some (D.str lines1), some ((eL (eP D.str D.int)) z.1), some ((eL (eP D.str D.str)) z.2), y.1, y.2.1, y.2.2]) (Q := (RT (fun (b : (List D)) => (eT eD) b) (fun (_ : (List D)) => []) [])) ?_ ?_ ?_
    · refine Sm.forR (e := (eP D.int D.str)) (I := fun (z : (List (Str × Int)) × (List (Str × Str))) (y : (Option D) × (Option D) × (Option D)) => [some (D.str lines1), some ((eL (eP D.str D.int)) z.1), some ((eL (eP D.str D.str)) z.2), y.1, y.2.1, y.2.2]) (Q := (RT (fun (b : (List D)) => (eT eD) b) (fun (_ : (List D)) => []) [])) ?_ _ ([], []) (none, none, none)
      · intro x29
        intro z_
        refine Prod.rec (fun known30 pairs31 => ?_) z_
        intro j3_4_5
        refine Sm.gp rfl ?_
        refine Sm.fin ?_
        refine Sm.sq ?_
        refine Sm.set ?_
        refine Sm.mSpl ?_
        refine Sm.pu (rfl) ?_
        refine Sm.splK ?_
        refine Sm.pu (rfl) ?_
        refine Sm.op (os_spl _ _) fun words32 => ?_
        refine Sm.sq ?_
        refine Sm.ifc ?_
        refine Sm.mNot ?_
        refine Sm.mT ?_
        refine Sm.mCallH ?_
        refine Sm.mCons ?_
        refine Sm.pu (rfl) ?_
        refine Sm.asc ?_
        refine Sm.pu rfl ?_
        refine Sm.asc ?_
        refine Sm.pu rfl ?_
        refine Sm.pu rfl ?_
        refine Sm.chH (q_law_adds words32 known30 pairs31) rfl (fun _ => trivial) fun ⟨v33, known34, pairs35⟩ => ?_
        refine Sm.opp rfl ?_
        refine Sm.ifS ?_ ?_
        · intro _
          refine Sm.ret ?_
          refine Sm.pu (a := (eP D.str D.int) (("none" : Str), x29.1)) (tup_ok (cons_ok (rfl) (cons_ok (rfl) (nil_ok))) (show (2 : Nat) ≤ sizeLine by decide)) ?_
          exact Sm.done (b := (Stp.rt ([(D.str ((("none" : Str), x29.1).1)), (D.int ((("none" : Str), x29.1).2))]))) (RT.rt ⟨_, rfl, rfl⟩)
        · intro _
          refine Sm.nx ?_
          refine Sm.bs (I := fun (z : (List (Str × Int)) × (List (Str × Str))) (y : Unit) => [some (D.str lines1), some ((eL (eP D.str D.int)) z.1), some ((eL (eP D.str D.str)) z.2), some (D.int x29.1), some (D.str x29.2), some ((eL D.str) words32)]) ?_ ?_
          · refine Sm.fin ?_
            refine Sm.ifc ?_
            refine Sm.mB ?_
            refine Sm.m2 ?_
            refine Sm.m2 ?_
            refine Sm.pu (rfl) ?_
            refine Sm.pu (rfl) ?_
            refine Sm.op (os_ixL _ _) fun v46 => ?_
            refine Sm.pu (rfl) ?_
            refine Sm.opp (ety_str.eq (by decide) v46 ("gauge" : Str)) ?_
            refine Sm.opp rfl ?_
            refine Sm.ifS ?_ ?_
            · intro _
              refine Sm.exp ?_
              refine Sm.mMl rfl ?_
              refine Sm.mCons ?_
              refine Sm.mTup ?_
              refine Sm.mCons ?_
              refine Sm.m2 ?_
              refine Sm.pu (rfl) ?_
              refine Sm.pu (rfl) ?_
              refine Sm.op (os_ixL _ _) fun v47 => ?_
              refine Sm.mCons ?_
              refine Sm.mA ?_
              refine Sm.mCons ?_
              refine Sm.m2 ?_
              refine Sm.pu (rfl) ?_
              refine Sm.pu (rfl) ?_
              refine Sm.op (os_ixL _ _) fun v48 => ?_
              refine Sm.pu rfl ?_
              refine Sm.op (os_intX _) fun v49 => ?_
              refine Sm.pu rfl ?_
              refine Sm.opp (d := (eP D.str D.int) (v47, v49)) (tupIf (n := 2) rfl (by decide)) ?_
              refine Sm.pu rfl ?_
              refine Sm.mlK (f := fun b => (D.non, (eL (eP D.str D.int)) b)) (d := (eL (eP D.str D.int)) known34) rfl (os_app (e := (eP D.str D.int)) known34 (v47, v49)) fun known50 => ?_
              exact Sm.done (b := (known50, pairs35)) ⟨(), rfl⟩
            · intro _
              refine Sm.exp ?_
              refine Sm.mMl rfl ?_
              refine Sm.mCons ?_
              refine Sm.mTup ?_
              refine Sm.mCons ?_
              refine Sm.m2 ?_
              refine Sm.pu (rfl) ?_
              refine Sm.pu (rfl) ?_
              refine Sm.op (os_ixL _ _) fun v51 => ?_
              refine Sm.mCons ?_
              refine Sm.m2 ?_
              refine Sm.pu (rfl) ?_
              refine Sm.pu (rfl) ?_
              refine Sm.op (os_ixL _ _) fun v52 => ?_
              refine Sm.pu rfl ?_
              refine Sm.opp (d := (eP D.str D.str) (v51, v52)) (tupIf (n := 2) rfl (by decide)) ?_
              refine Sm.pu rfl ?_
              refine Sm.mlK (f := fun b => (D.non, (eL (eP D.str D.str)) b)) (d := (eL (eP D.str D.str)) pairs35) rfl (os_app (e := (eP D.str D.str)) pairs35 (v51, v52)) fun pairs53 => ?_
              exact Sm.done (b := (known34, pairs53)) ⟨(), rfl⟩
          · intro z_
            refine Prod.rec (fun known44 pairs45 => ?_) z_
            intro _
            exact Sm.done (b := (Stp.on (known44, pairs45))) ⟨⟨_, _, _⟩, .inl rfl⟩
    · intro v53 hv
      exact Sm.done hv
    · intro z_
      refine Prod.rec (fun known27 pairs28 => ?_) z_
      intro j3_4_5
      refine Sm.ret ?_
      refine Sm.pu (a := (eP3 D.str (eT (eP D.str D.int)) (eT (eP D.str D.str))) (("read" : Str), known27, pairs28)) (tup_ok (cons_ok (rfl) (cons_ok (a_ok (cons_ok (rfl) nil_ok) (tuple_l _)) (cons_ok (a_ok (cons_ok (rfl) nil_ok) (tuple_l _)) (nil_ok)))) (show (3 : Nat) ≤ sizeLine by decide)) ?_
      exact Sm.done (b := ([(D.str ((("read" : Str), known27, pairs28).1)), ((eT (eP D.str D.int)) ((("read" : Str), known27, pairs28).2.1)), ((eT (eP D.str D.str)) ((("read" : Str), known27, pairs28).2.2))])) ⟨_, rfl, rfl⟩)
end Law
namespace Law
open PySem PySem.Spec PyProof.Rows L2 G
noncomputable def t_law (script1 : List Int) : O (Bool) :=
  (rg1 (maxI (2 : Int) (minI (script1.length : Int) (40 : Int)))).bind fun r2 =>
  (forR (ρ := Bool) (fun (x11 : Int) (_ : Unit) =>
  (t_law_cell script1 x11).bind fun v12 =>
  (t_law_hand v12).bind fun v13 =>
  (t_law_lines v13).bind fun (lines14, o15) =>
  (t_law_found lines14).bind fun v16 =>
  (reprO ((eT eD) v16)).bind fun v17 =>
  (t_law_due lines14).bind fun v18 =>
  (reprO ((eT eD) v18)).bind fun v19 =>
  if (!decide (v17 = v19)) = true then
  (O.ok (Stp.rt false))
  else
  (O.ok (Stp.on ()))) r2 ()).bind fun z => match z with
  | .inl v19 => O.ok v19
  | .inr _ =>
  O.ok true
theorem q_law (script1 : List Int) : FSm MF_f_law [D.scr script1] (fun (b : Bool) => D.bl b) (fun (_ : Bool) => []) (t_law script1) := FSm.mk (show Sm (fun _ => True) (RT (fun (b : Bool) => D.bl b) (fun (_ : Bool) => []) []) (m_f_law [some (D.scr script1), none, none]) _ from by
  refine Sm.fin ?_
  refine Sm.sq ?_
  refine Sm.for ?_
  refine Sm.mRg1 ?_
  refine Sm.mCons ?_
  refine Sm.pu (a := D.int (maxI (2 : Int) (minI (script1.length : Int) (40 : Int)))) (a_ok (cons_ok (rfl) (cons_ok (a_ok (cons_ok (a_ok (cons_ok (rfl) nil_ok) (len_sc _)) (cons_ok (rfl) nil_ok)) (min_ii _ _)) nil_ok)) (max_ii _ _)) ?_
  refine Sm.pu rfl ?_
  refine Sm.op (os_rg1 _) fun r2 => ?_
  refine Sm.bR (I := fun (z : Unit) (y : (Option D) × (Option D)) => [some (D.scr script1), y.1, y.2]) (Q := (RT (fun (b : Bool) => D.bl b) (fun (_ : Bool) => []) [])) ?_ ?_ ?_
  · refine Sm.forR (e := D.int) (I := fun (z : Unit) (y : (Option D) × (Option D)) => [some (D.scr script1), y.1, y.2]) (Q := (RT (fun (b : Bool) => D.bl b) (fun (_ : Bool) => []) [])) ?_ _ () (none, none)
    · intro x11
      intro _
      intro j1_2
      refine Sm.gp rfl ?_
      refine Sm.fin ?_
      refine Sm.sq ?_
      refine Sm.set ?_
      refine Sm.mCallH ?_
      refine Sm.mCons ?_
      refine Sm.mNP ?_
      refine Sm.mCallH ?_
      refine Sm.mCons ?_
      refine Sm.mCkd ?_
      refine Sm.mCons ?_
      refine Sm.pu (rfl) ?_
      refine Sm.mCons ?_
      refine Sm.pu (rfl) ?_
      refine Sm.pu rfl ?_
      refine Sm.pu rfl ?_
      refine Sm.ckK (q_law_cell script1 x11) ⟨rfl, rfl, rfl⟩ rfl trivial fun v12 => ?_
      refine Sm.pu rfl ?_
      refine Sm.chH (q_law_hand v12) rfl (fun _ => trivial) fun v13 => ?_
      refine Sm.npk rfl ?_
      refine Sm.pu rfl ?_
      refine Sm.chH (q_law_lines v13) rfl (fun _ => trivial) fun ⟨lines14, o15⟩ => ?_
      refine Sm.ifc ?_
      refine Sm.mB ?_
      refine Sm.m2 ?_
      refine Sm.mA ?_
      refine Sm.mCons ?_
      refine Sm.mCkd ?_
      refine Sm.mCons ?_
      refine Sm.pu (rfl) ?_
      refine Sm.pu rfl ?_
      refine Sm.pu rfl ?_
      refine Sm.ckK (q_law_found lines14) ⟨rfl, rfl, rfl⟩ rfl trivial fun v16 => ?_
      refine Sm.pu rfl ?_
      refine Sm.op os_S fun v17 => ?_
      refine Sm.mA ?_
      refine Sm.mCons ?_
      refine Sm.mCkd ?_
      refine Sm.mCons ?_
      refine Sm.pu (rfl) ?_
      refine Sm.pu rfl ?_
      refine Sm.pu rfl ?_
      refine Sm.ckK (q_law_due lines14) ⟨rfl, rfl, rfl⟩ rfl trivial fun v18 => ?_
      refine Sm.pu rfl ?_
      refine Sm.op os_S fun v19 => ?_
      refine Sm.opp (ety_str.ne (by decide) v17 v19) ?_
      refine Sm.opp rfl ?_
      refine Sm.ifS ?_ ?_
      · intro _
        refine Sm.ret ?_
        refine Sm.pu (rfl) ?_
        exact Sm.done (b := (Stp.rt false)) (RT.rt ⟨_, rfl, rfl⟩)
      · intro _
        refine Sm.nx ?_
        exact Sm.done (b := (Stp.on ())) ⟨⟨_, _⟩, .inl rfl⟩
  · intro v19 hv
    exact Sm.done hv
  · intro _
    intro j1_2
    refine Sm.ret ?_
    refine Sm.pu (rfl) ?_
    exact Sm.done (b := true) ⟨_, rfl, rfl⟩)
end Law
namespace Law
open PySem PySem.Spec PyProof.Rows L2 G
/-! ### draws -/
def Hand (h : List Int) : Prop := ∃ a b c, h = [a, b, c]
theorem fmod_pos (a : Int) {b : Int} (h : 0 < b) : a.fmod b = a % b := by rw [Int.fmod_eq_emod_of_nonneg _ (by omega)]
theorem draw_ok {h : List Int} (H : Hand h) {n : Int} (hn : 0 < n) (hm : n < 1073741824) : Ok (t_law_draw h n) fun p => Hand p.2 ∧ 0 ≤ p.1 ∧ p.1 < n := by
  obtain ⟨a, b, c, rfl⟩ := H
  unfold t_law_draw
  refine (Ok.ix (by decide) (by simp)).bd fun v hv => ?_
  refine (Ok.st (Q := fun s => ∃ c', s = [a, b, c']) (by decide) (by simp) ⟨_, rfl⟩).bd ?_
  rintro _ ⟨c', rfl⟩
  refine (Ok.ix (by decide) (by simp)).bd fun v0 hv0 => ?_
  refine Ok.ite (fun _ => ?_) (fun _ => ?_)
  · refine (Ok.ix (by decide) (by simp)).bd fun v1 hv1 => ?_
    refine (Ok.dm (Q := fun p => 0 ≤ p.2 ∧ p.2 < n) ⟨hn, hm⟩ ⟨Int.emod_nonneg _ (by omega), Int.emod_lt_of_pos _ hn⟩).bd ?_
    rintro ⟨q, r⟩ ⟨h1, h2⟩
    refine (Ok.st (Q := fun s => Hand s) (by decide) (by simp) ⟨_, _, _, rfl⟩).bd ?_
    intro s hs
    exact Ok.ret ⟨hs, h1, h2⟩
  · refine (Ok.ix (by decide) (by simp)).bd fun v1 hv1 => ?_
    have h1 := Int.emod_nonneg v1 (show (1000000207 : Int) ≠ 0 by decide)
    have h2 := Int.emod_lt_of_pos v1 (show (0 : Int) < 1000000207 by decide)
    refine (Ok.mulL (Q := fun _ => True) (by rw [fmod_pos _ (by decide)]; omega) trivial).bd fun w _ => ?_
    refine (Ok.ix (by decide) (by simp)).bd fun v2 _ => ?_
    refine (Ok.st (Q := fun s => ∃ b', s = [a, b', c']) (by decide) (by simp) ⟨_, rfl⟩).bd ?_
    rintro _ ⟨b', rfl⟩
    refine (Ok.ix (by decide) (by simp)).bd fun v3 _ => ?_
    refine (Ok.md (Q := fun r => 0 ≤ r ∧ r < n) hn ⟨Int.emod_nonneg _ (by omega), Int.emod_lt_of_pos _ hn⟩).bd fun r hr => ?_
    exact Ok.ret ⟨⟨_, _, _, rfl⟩, hr⟩
theorem hand_ok (c : Int) : Ok (t_law_hand c) Hand := ⟨_, rfl, _, _, _, rfl⟩
theorem sz : sizeLine = 16777216 := rfl
theorem cell_ok (ns : List Int) {k : Int} (hk : 0 ≤ k) (hk2 : k ≤ 1000) : Ok (t_law_cell ns k) fun _ => True := by
  unfold t_law_cell
  refine Ok.ite (fun h => ?_) (fun h => ?_)
  · rw [decide_eq_true_eq] at h
    exact (Ok.ix hk h).bd fun v _ => Ok.ret trivial
  · refine (Ok.mulL (Q := fun _ => True) (by omega) trivial).bd fun v _ => ?_
    refine (Ok.forN (Q := fun _ => True) (fun _ _ => True) (fun x xs s _ => ⟨_, rfl, trivial⟩) (fun _ _ => trivial) trivial).bd fun v _ => Ok.ret trivial
/-! ### names -/
def Sg1 (c : Nat) : Prop := 97 ≤ c ∧ c ≤ 122
def Nm (x : PySem.Str) : Prop := x.cps.toList ≠ [] ∧ x.cps.toList.length ≤ 6 ∧ ∀ c ∈ x.cps.toList, Sg1 c
instance (c : Nat) : Decidable (Sg1 c) := by unfold Sg1; exact inferInstance
instance (x : PySem.Str) : Decidable (Nm x) := by unfold Nm; exact inferInstance
def ltrs : PySem.Str := "abcdefghijklmnopqrstuvwxyz"
theorem ltrs_cps : ltrs.cps.toList = [97, 98, 99, 100, 101, 102, 103, 104, 105, 106, 107, 108, 109, 110, 111, 112, 113, 114, 115, 116, 117, 118, 119, 120, 121, 122] := by decide
theorem str_len (x : PySem.Str) : x.length = x.cps.toList.length := by simp [PySem.Str.length]
theorem nm_len {x : PySem.Str} (h : Nm x) : x.length ≤ 6 := by rw [str_len]; exact h.2.1
def cand (w : PySem.Str) (c : Nat) : PySem.Str := ⟨(w.cps.toList.take 5 ++ [c]).toArray⟩
def ownW : List PySem.Str := ["gauge", "top", "tie", "untie", "turn", "knock", "back", "shows", "all", "can", "fields", "to"]
abbrev sLt (a b : PySem.Str) : Prop := lt PyData.str a b = true
end Law
namespace Law
open PySem PySem.Spec PyProof.Rows L2 G
/-! ### who are tied -/
def at0 (sp : List Int) (k : Nat) : Int := sp.getD k 0
def mm (a b : Int) : Int × Int := (minI a b, maxI a b)
def PP1 (n : Nat) (p : Int × Int) : Prop := 0 ≤ p.1 ∧ p.1 < p.2 ∧ p.2 < n
def PP (n : Nat) (ps : List (Int × Int)) : Prop := ps.Nodup ∧ ps.length ≤ 1000 ∧ ∀ p ∈ ps, PP1 n p
def chain (sp : List Int) : List (Int × Int) := (rng 0 ((sp.length : Int) - 1)).map fun k => mm (at0 sp k.toNat) (at0 sp (k + 1).toNat)
structure Spots (n : Nat) (sp : List Int) : Prop where
  nd : sp.Nodup
  ln : sp.length = n
  rg : ∀ x ∈ sp, 0 ≤ x ∧ x < n
theorem F2.sub {xs ys : List α} {os : List (Option α)} (h : F2 (fun x o => o = some x ∨ o = none) xs os) (e : ys = os.filterMap id) : ys.Sublist xs := by
  subst e
  induction h with
  | nil => exact List.Sublist.refl _
  | cons r _ ih =>
    rcases r with rfl | rfl
    · simpa using ih
    · simp only [List.filterMap_cons, id]
      exact ih.cons _
abbrev pLt (a b : Int × Int) : Prop := lt (pP PyData.int PyData.int) a b = true
end Law
namespace G
open PySem PySem.Spec PyProof.Rows L2
theorem lt_pP {α β : Type} {e : α → D} {p : α → PyData} {n : Nat} {f : β → D} {q : β → PyData} {m : Nat} (h : Ety e p n) (k : Ety f q m) [DecidableEq α] (a b : α × β) : lt (pP p q) a b = if a.1 = b.1 then lt q a.2 b.2 else lt p a.1 b.1 := by
  unfold lt pP
  rw [PySem.W.dataLt_tuple]
  split
  · rename_i e1
    rw [PySem.W.dataLt_all_yes (h.al _ _) ((h.ev _ _).mpr e1)]
    cases hv : PyData.eqv (q a.2) (q b.2) with
    | true =>
      rw [PySem.W.dataLt_all_yes (k.al _ _) hv]
      have := (k.ev _ _).mp hv
      rw [this]
      have h1 : PySem.W.dataLt (q b.2) (q b.2) = false := lex_irrefl _
      rw [h1]
      exact lex_irrefl _
    | false => rw [PySem.W.dataLt_all_no (k.al _ _) hv]
  · rename_i e1
    refine PySem.W.dataLt_all_no (h.al _ _) ?_
    cases hv : PyData.eqv (p a.1) (p b.1) with
    | true => exact absurd ((h.ev _ _).mp hv) e1
    | false => rfl
end G
namespace Law
open PySem PySem.Spec PyProof.Rows L2 G
/-! ### who stands beside whom -/
def nearL (n : Nat) (ps : List (Int × Int)) : List (List Int) := (rng 0 n).map fun k => srt PyData.int ((ps.filter fun p => decide (p.1 = k)).map (·.2) ++ (ps.filter fun p => decide (p.2 = k)).map (·.1))
/-! ### moors drawn -/
structure MD (calls : List PySem.Str) (highs : List Int) (near : List (List Int)) (ps : List (Int × Int)) : Prop where
  n1 : 1 ≤ highs.length
  n12 : highs.length ≤ 12
  cl : calls.length = highs.length
  nm : ∀ c ∈ calls, Nm c
  cs : calls.Pairwise sLt
  hr : ∀ h ∈ highs, 0 ≤ h ∧ h ≤ 1000000000
  ne : near = nearL highs.length ps
  pr : ∀ p ∈ ps, PP1 highs.length p
  pp : ps.Pairwise pLt
  pl : ps.length ≤ 1000
/-! ### what all show -/
def SatOk (highs sat : List Int) : Prop := F2 (fun h s => 0 ≤ s ∧ s ≤ h) highs sat
theorem F2.snoc {α β : Type} {R : α → β → Prop} {xs : List α} {ys : List β} {x : α} {y : β} (h : F2 R xs ys) (r : R x y) : F2 R (xs ++ [x]) (ys ++ [y]) := by
  induction h with
  | nil => exact .cons r .nil
  | cons q _ ih => exact .cons q ih
/-! ### gauges and rods handed in -/
def nthS (cs : List PySem.Str) (i : Int) : PySem.Str := cs.getD i.toNat ""
def rodsL (cs : List PySem.Str) (ps : List (Int × Int)) : List (PySem.Str × PySem.Str) := ps.map fun p => (nthS cs p.1, nthS cs p.2)
end Law
namespace Law
open PySem PySem.Spec PyProof.Rows L2 G
/-! ### looks at any thing -/
inductive IsXD : D → Prop
  | exc (c : Nat) (fs : List D) : IsXD (.exc c fs)
  | dti (ks : List (List Int)) (ws : List D) : IsXD (.dti ks ws)
def NoObj (d : D) : Prop := (∀ c fs, d ≠ .obj c fs) ∧ ¬ IsXD d
def whD : D → Bool
  | .int _ => true
  | _ => false
theorem is_whole_D {d : D} (h : NoObj d) : t_is_whole d = .ok (whD d) := by
  cases d <;> first | rfl | exact absurd rfl (h.1 _ _) | exact absurd (IsXD.exc _ _) h.2 | exact absurd (IsXD.dti _ _) h.2
def numD (m : Int) : D → Bool
  | .int i => decide (0 ≤ i) && decide (i ≤ m)
  | _ => false
theorem is_number_D {d : D} (h : NoObj d) (m : Int) : t_is_number d m = .ok (numD m d) := by
  unfold t_is_number
  rw [is_whole_D h]
  cases d with
  | int i =>
    simp only [whD, O.ok_bind, if_true, le_ii, opB, numD]
    by_cases h0 : 0 ≤ i
    · simp [h0]
    · simp [h0]
  | _ => rfl
theorem mem_ltrs (c : Nat) : c ∈ ltrs.cps.toList ↔ Sg1 c := by
  rw [ltrs_cps]
  simp only [List.mem_cons, List.not_mem_nil, or_false, Sg1]
  omega
theorem is_name_str {x : PySem.Str} (hx : x.length ≤ sizeLine) : t_is_name (.str x) = .ok (decide (Nm x)) := by
  have e0 : isK .str (.str x) = .ok true := rfl
  have e1 : G.opI (dLen [.str x]) = .ok (x.length : Int) := by simp only [dLen, hx, if_true, G.opI]
  unfold t_is_name
  rw [e0]
  simp only [O.ok_bind, Bool.not_true, Bool.false_eq_true, if_false, e1, decide_eq_true_eq]
  have hl := str_len x
  have e2 : (if (1 : Int) ≤ x.length then O.ok (decide ((x.length : Int) ≤ 6)) else .ok false) = .ok (decide (1 ≤ x.cps.toList.length ∧ x.cps.toList.length ≤ 6)) := by
    rw [hl]
    by_cases h1 : 1 ≤ x.cps.toList.length
    · rw [if_pos (by omega)]
      congr 1
      exact decide_eq_decide.mpr (by omega)
    · rw [if_neg (by omega)]
      congr 1
      exact (decide_eq_false (by omega)).symm
  rw [e2]
  simp only [O.ok_bind, Bool.not_eq_true', decide_eq_false_iff_not]
  by_cases h6 : 1 ≤ x.cps.toList.length ∧ x.cps.toList.length ≤ 6
  · rw [if_neg (by simpa using h6)]
    have e3 : itD (.str x) = .ok ((sgs x).map D.str) := by unfold itD; rw [it_s]; rfl
    rw [e3]
    simp only [O.ok_bind, O.bind_ok]
    refine Ok.eq ?_
    refine (Ok.lcOe (g := fun d => match d with | .str s => decide (s.cps.toList.all (fun c => decide (Sg1 c)) = true) | _ => false) (Q := fun l => l.all id = decide (Nm x)) (by rw [List.length_map, sgs, List.length_map, sz]; omega) ?_ ?_).bd ?_
    · intro d hd
      obtain ⟨s, hs, rfl⟩ := List.mem_map.mp hd
      obtain ⟨c, hc, rfl⟩ := List.mem_map.mp hs
      have e4 : dIn (.str (⟨#[c]⟩ : PySem.Str)) (.str ltrs) = some (.bl (decide (c ∈ ltrs.cps.toList))) := by simp [dIn, dOr2, dSg]
      show opB (dIn (.str (⟨#[c]⟩ : PySem.Str)) (.str ltrs)) = _
      rw [e4]
      show O.ok (decide (c ∈ ltrs.cps.toList)) = O.ok (decide (([c].all fun c => decide (Sg1 c)) = true))
      congr 1
      exact decide_eq_decide.mpr (by rw [mem_ltrs]; simp)
    · rw [Bool.eq_iff_iff, List.all_map, List.all_map, sgs, List.all_map, List.all_eq_true, decide_eq_true_iff]
      constructor
      · intro h
        refine ⟨fun z => ?_, h6.2, fun c hc => ?_⟩
        · rw [z] at h6; simp at h6
        · have := h c hc
          simpa using this
      · intro h c hc
        have := h.2.2 c hc
        simpa using this
    · intro l hl
      exact Ok.ret hl
  · rw [if_pos h6]
    congr 1
    refine (decide_eq_false fun h => h6 ⟨?_, h.2.1⟩).symm
    exact List.length_pos_iff.mpr h.1
theorem is_name_nm {x : PySem.Str} (h : Nm x) : t_is_name (.str x) = .ok true := by
  rw [is_name_str (Nat.le_trans (nm_len h) (by decide)), decide_eq_true h]
/-! ### moors made -/
abbrev eG : List (PySem.Str × Int) → D := eT (eP D.str D.int)
abbrev eRd : List (PySem.Str × PySem.Str) → D := eT (eP D.str D.str)
def mo (gs : List (PySem.Str × Int)) (rs : List (PySem.Str × PySem.Str)) : D := .obj 0 [eG gs, eRd rs]
structure GOk (gs : List (PySem.Str × Int)) : Prop where
  ln : gs.length ≤ 12
  nm : ∀ g ∈ gs, Nm g.1
  tp : ∀ g ∈ gs, 0 ≤ g.2 ∧ g.2 ≤ 1000000000
  up : (gs.map (·.1)).Pairwise sLt
abbrev rLt (a b : PySem.Str × PySem.Str) : Prop := lt (pP PyData.str PyData.str) a b = true
structure ROk (gs : List (PySem.Str × Int)) (rs : List (PySem.Str × PySem.Str)) : Prop where
  ln : rs.length ≤ 1000
  nm : ∀ r ∈ rs, r.1 ∈ gs.map (·.1) ∧ r.2 ∈ gs.map (·.1)
  lt : ∀ r ∈ rs, sLt r.1 r.2
  up : rs.Pairwise rLt
theorem is_gauge_ok {g : PySem.Str × Int} (h : Nm g.1) (h2 : 0 ≤ g.2 ∧ g.2 ≤ 1000000000) : t_is_gauge (eP D.str D.int g) = .ok true := by
  have e0 : isK .tuple (eP D.str D.int g) = .ok true := rfl
  have e1 : G.opI (dLen [eP D.str D.int g]) = .ok 2 := rfl
  have e2 : opD (dIx (eP D.str D.int g) (.int 0)) = .ok (.str g.1) := rfl
  have e3 : opD (dIx (eP D.str D.int g) (.int 1)) = .ok (.int g.2) := rfl
  unfold t_is_gauge
  have e4 : t_is_number (.int g.2) 1000000000 = .ok (numD 1000000000 (.int g.2)) := is_number_D ⟨fun _ _ => by simp, fun z => by cases z⟩ _
  rw [e0, e1, e2, e3]
  simp only [O.ok_bind, if_true, is_name_nm h, e4, numD, decide_eq_true_eq]
  simp [h2.1, h2.2]
theorem nm_ne {x : PySem.Str} (h : Nm x) : sLt "" x := by
  unfold sLt lt
  rw [PySem.W.dataLt_str, decide_eq_true_iff]
  cases hx : x.cps.toList with
  | nil => exact absurd hx h.1
  | cons c l =>
    show ([] : List Nat) < c :: l
    exact List.nil_lt_cons _ _
theorem le_str (a b : PySem.Str) : dLe (.str a) (.str b) = some (.bl (!lt PyData.str b a)) := ety_str.le (by decide) a b
/-- numbered, by what follows -/
def enF {α : Type} : Int → List α → List (Int × α)
  | _, [] => []
  | k, x :: xs => (k, x) :: enF (k + 1) xs
theorem enL_F {α : Type} (xs : List α) : enL xs = enF 0 xs := by
  have key : ∀ (xs : List α) (k : Nat), ((List.range' k xs.length).zipWith (fun (j : Nat) x => ((j : Int), x)) xs) = enF k xs := by
    intro xs
    induction xs with
    | nil => intro k; rfl
    | cons x xs ih =>
      intro k
      rw [List.length_cons, List.range'_succ, List.zipWith_cons_cons, ih (k + 1)]
      rfl
  unfold enL
  rw [List.range_eq_range']
  exact key xs 0
theorem odd_gauge_ok {gs : List (PySem.Str × Int)} (G : GOk gs) : t_odd_gauge (eG gs) = .ok none := by
  have e0 : dSq (eG gs) = some (gs.map (eP D.str D.int)) := rfl
  refine Ok.eq ?_
  unfold t_odd_gauge
  rw [e0]
  simp only [Option.map_some, ofO_some, O.ok_bind]
  refine Ok.bd (P := fun z => ∃ d, z = Sum.inr d) ?_ ?_
  · have key : ∀ (gs : List (PySem.Str × Int)) (k : Int) (last : PySem.Str), (∀ g ∈ gs, Nm g.1 ∧ 0 ≤ g.2 ∧ g.2 ≤ 1000000000) → (last :: gs.map (·.1)).Pairwise sLt →
        Ok (forR (ρ := (Option Int)) (fun (x18 : Int × D) (last19 : D) =>
          (t_is_gauge x18.2).bind fun v20 =>
          (if (!v20) = true then .ok true else ((opD (dIx x18.2 (D.int (0 : Int)))).bind fun v23 =>
          (opB (dLe v23 last19)).bind fun v24 =>
          O.ok v24)).bind fun v25 =>
          if v25 = true then
          (O.ok (Stp.rt (some x18.1)))
          else
          ((opD (dIx x18.2 (D.int (0 : Int)))).bind fun last26 =>
          O.ok (Stp.on last26))) (enF k (gs.map (eP D.str D.int))) (.str last)) (fun z => ∃ d, z = Sum.inr d) := by
      intro gs
      induction gs with
      | nil => exact fun k last _ _ => ⟨_, rfl, _, rfl⟩
      | cons g gs ih =>
        intro k last hg hp
        have hg0 := hg g (List.mem_cons_self ..)
        have hp1 := List.pairwise_cons.mp hp
        have hlt : sLt last g.1 := hp1.1 _ (by simp)
        rw [List.map_cons, enF, forR]
        simp only [is_gauge_ok hg0.1 hg0.2, O.ok_bind, Bool.not_true, Bool.false_eq_true, if_false]
        have e1 : opD (dIx (eP D.str D.int g) (.int 0)) = .ok (.str g.1) := rfl
        rw [e1]
        simp only [O.ok_bind, le_str, opB, hlt, Bool.not_true, Bool.false_eq_true, if_false]
        exact ih (k + 1) g.1 (fun x hx => hg x (List.mem_cons_of_mem _ hx)) hp1.2
    rw [enL_F]
    refine key gs 0 "" (fun g hg => ⟨G.nm g hg, G.tp g hg⟩) (List.pairwise_cons.mpr ⟨fun x hx => ?_, G.up⟩)
    obtain ⟨g, hg, rfl⟩ := List.mem_map.mp hx
    exact nm_ne (G.nm g hg)
  · rintro _ ⟨d, rfl⟩
    exact Ok.ret rfl
theorem is_rod_ok {r : PySem.Str × PySem.Str} {ns : List PySem.Str} (h1 : Nm r.1) (h2 : Nm r.2) (m1 : r.1 ∈ ns) (m2 : r.2 ∈ ns) (hl : sLt r.1 r.2) : t_is_rod (eP D.str D.str r) ns = .ok true := by
  have e0 : isK .tuple (eP D.str D.str r) = .ok true := rfl
  have e1 : G.opI (dLen [eP D.str D.str r]) = .ok 2 := rfl
  have e2 : itD (eP D.str D.str r) = .ok [.str r.1, .str r.2] := rfl
  have e3 : opD (dIx (eP D.str D.str r) (.int 0)) = .ok (.str r.1) := rfl
  have e4 : opD (dIx (eP D.str D.str r) (.int 1)) = .ok (.str r.2) := rfl
  have i1 : dIn (.str r.1) (eL D.str ns) = some (.bl true) := by
    have := ety_str.inL (by decide) r.1 ns
    rw [decide_eq_true m1] at this
    exact this
  have i2 : dIn (.str r.2) (eL D.str ns) = some (.bl true) := by
    have := ety_str.inL (by decide) r.2 ns
    rw [decide_eq_true m2] at this
    exact this
  have l1 : dLt (.str r.1) (.str r.2) = some (.bl true) := by
    have := ety_str.lt (by decide) r.1 r.2
    rw [this, hl]
  unfold t_is_rod
  rw [e0, e1, e2, e3, e4]
  simp only [O.ok_bind, Bool.not_true, Bool.false_eq_true, if_false, decide_eq_true_eq, Bool.not_eq_true', l1, opB]
  rw [if_neg (by simp)]
  refine Ok.eq ?_
  refine (Ok.lcOe (g := fun _ => true) (Q := fun l => l.all id = true) (by simp [sz]) ?_ rfl).bd ?_
  · intro x hx
    rcases List.mem_cons.mp hx with rfl | hx
    · rw [is_name_nm h1]
      simp only [O.ok_bind, if_true, i1]
    · rw [List.mem_singleton.mp hx, is_name_nm h2]
      simp only [O.ok_bind, if_true, i2]
  · intro l hl
    rw [hl]
    exact Ok.ret rfl
theorem odd_rod_ok {gs : List (PySem.Str × Int)} {rs : List (PySem.Str × PySem.Str)} (G : GOk gs) (R : ROk gs rs) : t_odd_rod (eRd rs) (gs.map (·.1)) = .ok none := by
  have e0 : dSq (eRd rs) = some (rs.map (eP D.str D.str)) := rfl
  have hnm : ∀ n ∈ gs.map (·.1), Nm n := fun n hn => by
    obtain ⟨g, hg, rfl⟩ := List.mem_map.mp hn
    exact G.nm g hg
  refine Ok.eq ?_
  unfold t_odd_rod
  rw [e0]
  simp only [Option.map_some, ofO_some, O.ok_bind]
  refine Ok.bd (P := fun z => ∃ d, z = Sum.inr d) ?_ ?_
  · have key : ∀ (rs : List (PySem.Str × PySem.Str)) (k : Int) (last : PySem.Str × PySem.Str), (∀ r ∈ rs, r.1 ∈ gs.map (·.1) ∧ r.2 ∈ gs.map (·.1) ∧ sLt r.1 r.2) → (last :: rs).Pairwise rLt →
        Ok (forR (ρ := (Option Int)) (fun (x9 : Int × D) (last10 : D) =>
          (t_is_rod x9.2 (gs.map (·.1))).bind fun v11 =>
          (if (!v11) = true then .ok true else ((opB (dLe x9.2 last10)).bind fun v13 =>
          O.ok v13)).bind fun v14 =>
          if v14 = true then
          (O.ok (Stp.rt (some x9.1)))
          else
          (O.ok (Stp.on x9.2))) (enF k (rs.map (eP D.str D.str))) (eP D.str D.str last)) (fun z => ∃ d, z = Sum.inr d) := by
      intro rs
      induction rs with
      | nil => exact fun k last _ _ => ⟨_, rfl, _, rfl⟩
      | cons r rs ih =>
        intro k last hr hp
        have hr0 := hr r (List.mem_cons_self ..)
        have hp1 := List.pairwise_cons.mp hp
        have hlt : rLt last r := hp1.1 _ (List.mem_cons_self ..)
        have le1 : dLe (eP D.str D.str r) (eP D.str D.str last) = some (.bl false) := by
          rw [(ety_p ety_str ety_str).le (by decide) r last, hlt]
          rfl
        rw [List.map_cons, enF, forR]
        simp only [is_rod_ok (hnm _ hr0.1) (hnm _ hr0.2.1) hr0.1 hr0.2.1 hr0.2.2, O.ok_bind, Bool.not_true, Bool.false_eq_true, if_false, le1, opB]
        exact ih (k + 1) r (fun x hx => hr x (List.mem_cons_of_mem _ hx)) hp1.2
    rw [enL_F]
    refine key rs 0 ("", "") (fun r hr => ⟨(R.nm r hr).1, (R.nm r hr).2, R.lt r hr⟩) (List.pairwise_cons.mpr ⟨fun x hx => ?_, R.up⟩)
    unfold rLt
    have hx1 := hnm _ (R.nm x hx).1
    rw [lt_pP ety_str ety_str, if_neg]
    · exact nm_ne hx1
    · intro z
      exact hx1.1 (by rw [← show ("" : PySem.Str) = x.1 from z]; rfl)
  · rintro _ ⟨d, rfl⟩
    exact Ok.ret rfl
theorem cstG : Cst eG (cT (cP cS cI)) := cst_tup (cst_p cst_str cst_int)
theorem cstR : Cst eRd (cT (cP cS cS)) := cst_tup (cst_p cst_str cst_str)
theorem moor_ok {gs : List (PySem.Str × Int)} {rs : List (PySem.Str × PySem.Str)} (Gk : GOk gs) (R : ROk gs rs) : t_Moor_init (.obj 0 []) (eG gs) (eRd rs) = .ok (mo gs rs) := by
  have e0 : isK .tuple (eG gs) = .ok true := rfl
  have e1 : G.opI (dLen [eG gs]) = .ok (gs.length : Int) := by rw [show dLen [eG gs] = _ from len_t gs]; rfl
  have e2 : isK .tuple (eRd rs) = .ok true := rfl
  have hg := Gk.ln
  unfold t_Moor_init
  rw [e0, e1, e2]
  simp only [O.ok_bind, Bool.not_true, Bool.false_eq_true, if_false, decide_eq_true_eq]
  rw [if_neg (by omega), odd_gauge_ok Gk]
  simp only [O.ok_bind, Option.isSome_none, Bool.false_eq_true, if_false]
  rw [show cT (cP cS cI) (eG gs) = .ok gs from cstG.cp gs]
  simp only [O.ok_bind]
  unfold lcM
  rw [grd_t (by rw [sz]; omega)]
  simp only [O.ok_bind]
  rw [odd_rod_ok Gk R]
  simp only [O.ok_bind, Option.isSome_none, Bool.false_eq_true, if_false]
  rw [show cT (cP cS cS) (eRd rs) = .ok rs from cstR.cp rs]
  rfl
theorem mo_gs (gs : List (PySem.Str × Int)) (rs : List (PySem.Str × PySem.Str)) : atC 0 0 (cT (cP cS cI)) (mo gs rs) = .ok gs := by
  show (O.ok (eG gs)).bind _ = _
  exact cstG.cp gs
theorem mo_rs (gs : List (PySem.Str × Int)) (rs : List (PySem.Str × PySem.Str)) : atC 1 0 (cT (cP cS cS)) (mo gs rs) = .ok rs := by
  show (O.ok (eRd rs)).bind _ = _
  exact cstR.cp rs
/-! ### gauges and rods of a drawn moor -/
/-! ### is_stand, both looks -/
def satD (tops : List Int) : D → Bool
  | .tup xs => decide (xs.length = tops.length) && (xs.zip tops).all fun p => numD p.2 p.1
  | _ => false
def NoObj1 (d : D) : Prop := NoObj d ∧ ∀ xs, d = .tup xs → ∀ x ∈ xs, NoObj x
end Law
namespace Law
open PySem PySem.Spec PyProof.Rows L2 G
/-! ### turns: by numbers -/
abbrev Tn := Int × Int × Int
def geI (sat : List Int) (i : Int) : Int := sat.getD i.toNat 0
def eff (sat : List Int) (t : Tn) : List Int := sat.set t.1.toNat (geI sat t.1 + t.2.2 * geI sat t.2.1)
def inv (t : Tn) : Tn := (t.1, t.2.1, 0 - t.2.2)
def nmT (cs : List PySem.Str) (t : Tn) : PySem.Str × PySem.Str × Int := (nthS cs t.1, nthS cs t.2.1, t.2.2)
structure TOk (n : Nat) (ps : List (Int × Int)) (t : Tn) : Prop where
  i0 : 0 ≤ t.1
  i1 : t.1 < n
  j0 : 0 ≤ t.2.1
  j1 : t.2.1 < n
  ne : t.1 ≠ t.2.1
  pr : (t.1, t.2.1) ∈ ps ∨ (t.2.1, t.1) ∈ ps
  k0 : t.2.2 ≠ 0
  k1 : -1000000000 ≤ t.2.2 ∧ t.2.2 ≤ 1000000000
structure Vt (hs : List Int) (sat : List Int) (t : Tn) : Prop where
  by0 : 0 < geI sat t.2.1
  lo : 0 ≤ geI sat t.1 + t.2.2 * geI sat t.2.1
  hi : geI sat t.1 + t.2.2 * geI sat t.2.1 ≤ geI hs t.1
/-- turns one behind the other -/
def runT (sat : List Int) (ts : List Tn) : List Int := ts.foldl eff sat
def VS (hs : List Int) (ps : List (Int × Int)) : List Int → List Tn → Prop
  | _, [] => True
  | sat, t :: ts => TOk hs.length ps t ∧ Vt hs sat t ∧ VS hs ps (eff sat t) ts
end Law
namespace Law
open PySem PySem.Spec PyProof.Rows L2 G
/-! ### the program's moor -/
section
variable {cs : List PySem.Str} {hs : List Int} {ne : List (List Int)} {ps : List (Int × Int)}
abbrev mw (cs : List PySem.Str) (hs : List Int) (ps : List (Int × Int)) : D := mo (cs.zip hs) (rodsL cs ps)
end
end Law
namespace Law
open PySem PySem.Spec PyProof.Rows L2 G
/-! ### looks at any thing -/
def nmD : D → Bool
  | .str x => decide (Nm x)
  | _ => false
def strD : D → Bool
  | .str _ => true
  | _ => false
/-- a thing, its text not too long -/
def In1 (d : D) : Prop := NoObj d ∧ ∀ s, d = .str s → s.length ≤ 1000
theorem is_name_D {d : D} (h : In1 d) : t_is_name d = .ok (nmD d) := by
  cases d with
  | str x => exact is_name_str (Nat.le_trans (h.2 x rfl) (by decide))
  | obj c fs => exact absurd rfl (h.1.1 _ _)
  | exc c fs => exact absurd (IsXD.exc _ _) h.1.2
  | dti c fs => exact absurd (IsXD.dti _ _) h.1.2
  | _ => rfl
theorem no_str (x : PySem.Str) : NoObj (.str x) := ⟨fun _ _ => by simp, fun z => by cases z⟩
end Law
namespace Law
open PySem PySem.Spec PyProof.Rows L2 G
/-- a thing within a tuple -/
structure WayD (d : D) : Prop where
  no : NoObj d
  tp : ∀ xs, d = .tup xs → xs.length ≤ 100 ∧ ∀ x ∈ xs, In1 x
theorem isTup_D {d : D} (h : NoObj d) (hn : ∀ xs, d ≠ .tup xs) : isK .tuple d = .ok false := by
  cases d with
  | tup xs => exact absurd rfl (hn xs)
  | obj c fs => exact absurd rfl (h.1 _ _)
  | exc c fs => exact absurd (IsXD.exc _ _) h.2
  | dti c fs => exact absurd (IsXD.dti _ _) h.2
  | _ => rfl
theorem len2 {xs : List D} (h : xs.length = 2) : ∃ a b, xs = [a, b] := by
  match xs, h with
  | [a, b], _ => exact ⟨a, b, rfl⟩
/-- a gauge, if it is one -/
def gD : D → Option (PySem.Str × Int)
  | .tup [.str n, .int i] => if Nm n ∧ 0 ≤ i ∧ i ≤ 1000000000 then some (n, i) else none
  | _ => none
theorem gD_eq {x : D} {g : PySem.Str × Int} (h : gD x = some g) : x = eP D.str D.int g ∧ Nm g.1 ∧ 0 ≤ g.2 ∧ g.2 ≤ 1000000000 := by
  unfold gD at h
  split at h
  · split at h
    · rename_i q
      cases h
      exact ⟨rfl, q⟩
    · cases h
  · cases h
theorem gD_2 (a b : D) : (gD (.tup [a, b])).isSome = (nmD a && numD 1000000000 b) := by
  cases a with
  | str n =>
    cases b with
    | int i =>
      show (if Nm n ∧ 0 ≤ i ∧ i ≤ 1000000000 then some (n, i) else none).isSome = (decide (Nm n) && (decide (0 ≤ i) && decide (i ≤ 1000000000)))
      split
      · rename_i h
        simp [h.1, h.2.1, h.2.2]
      · rename_i h
        simp only [Option.isSome_none]
        symm
        simp only [Bool.and_eq_false_iff, decide_eq_false_iff_not]
        by_cases h1 : Nm n
        · by_cases h2 : 0 ≤ i
          · exact .inr (.inr fun h3 => h ⟨h1, h2, h3⟩)
          · exact .inr (.inl h2)
        · exact .inl h1
    | _ => simp [gD, numD]
  | _ => simp [gD, nmD]
theorem gD_len {xs : List D} (h : xs.length ≠ 2) : gD (.tup xs) = none := by
  unfold gD
  split
  · rename_i e
    cases e
    simp at h
  · rfl
theorem gD_tup {x : D} (h : ∀ xs, x ≠ .tup xs) : gD x = none := by
  unfold gD
  split
  · exact absurd rfl (h _)
  · rfl
theorem is_gauge_D {x : D} (h : WayD x) : t_is_gauge x = .ok (gD x).isSome := by
  by_cases t : ∃ xs, x = .tup xs
  · obtain ⟨xs, rfl⟩ := t
    obtain ⟨q1, q2⟩ := h.tp xs rfl
    have e0 : isK .tuple (.tup xs) = .ok true := rfl
    have e1 : G.opI (dLen [.tup xs]) = .ok (xs.length : Int) := rfl
    unfold t_is_gauge
    rw [e0, e1]
    simp only [O.ok_bind, if_true]
    by_cases hl : xs.length = 2
    · obtain ⟨a, b, rfl⟩ := len2 hl
      have e2 : opD (dIx (.tup [a, b]) (.int 0)) = .ok a := rfl
      have e3 : opD (dIx (.tup [a, b]) (.int 1)) = .ok b := rfl
      rw [e2, e3, gD_2]
      simp only [O.ok_bind, is_name_D (q2 a (by simp)), is_number_D (q2 b (by simp)).1]
      rw [if_pos (by simp)]
      cases nmD a <;> simp
    · rw [if_neg (by simpa using fun z => hl (by omega)), gD_len hl]
      rfl
  · have t : ∀ xs, x ≠ .tup xs := fun xs e => t ⟨xs, e⟩
    unfold t_is_gauge
    rw [isTup_D h.no t, gD_tup t]
    rfl
/-! the name's signs, one by one -/
end Law
namespace Law
open PySem PySem.Spec PyProof.Rows L2 G
def goodG (l : PySem.Str) (x : D) : Bool := match gD x with
  | some g => lt PyData.str l g.1
  | none => false
/-- the number of the first that is no gauge, or no higher one -/
def placeG (l : PySem.Str) (k : Int) : List D → Option Int
  | [] => none
  | x :: xs => match gD x with
    | some g => if lt PyData.str l g.1 = true then placeG g.1 (k + 1) xs else some k
    | none => some k
noncomputable def stO (x18 : Int × D) (last19 : D) : O (Stp D (Option Int)) :=
  (t_is_gauge x18.2).bind fun v20 =>
  (if (!v20) = true then .ok true else ((opD (dIx x18.2 (D.int (0 : Int)))).bind fun v23 =>
  (opB (dLe v23 last19)).bind fun v24 =>
  O.ok v24)).bind fun v25 =>
  if v25 = true then
  (O.ok (Stp.rt (some x18.1)))
  else
  ((opD (dIx x18.2 (D.int (0 : Int)))).bind fun last26 =>
  O.ok (Stp.on last26))
theorem odd_loop : ∀ (xs : List D) (k : Int) (l : PySem.Str), (∀ x ∈ xs, WayD x) → ∃ d, forR (ρ := Option Int) stO (enF k xs) (.str l) = .ok (match placeG l k xs with | some j => .inl (some j) | none => .inr d)
  | [], k, l, _ => ⟨_, rfl⟩
  | x :: xs, k, l, h => by
    have hx := h x (List.mem_cons_self ..)
    rw [enF, forR]
    unfold stO placeG
    simp only [is_gauge_D hx, O.ok_bind]
    cases e : gD x with
    | none => exact ⟨.non, rfl⟩
    | some g =>
      obtain ⟨rfl, _⟩ := gD_eq e
      have e2 : opD (dIx (eP D.str D.int g) (.int 0)) = .ok (.str g.1) := rfl
      rw [e2]
      simp only [Option.isSome_some, Bool.not_true, Bool.false_eq_true, if_false, O.ok_bind, le_str, opB]
      by_cases hl : lt PyData.str l g.1 = true
      · rw [hl]
        simp only [Bool.not_true, Bool.false_eq_true, if_false, if_true, O.ok_bind]
        exact odd_loop xs (k + 1) g.1 fun y q => h y (List.mem_cons_of_mem _ q)
      · have hl := Bool.eq_false_iff.mpr hl
        rw [hl]
        exact ⟨.non, rfl⟩
theorem odd_gauge_D {xs : List D} (h : ∀ x ∈ xs, WayD x) : t_odd_gauge (.tup xs) = .ok (placeG "" 0 xs) := by
  unfold t_odd_gauge
  rw [show ofO ((dSq (.tup xs)).map enL) = .ok (enL xs) from rfl, enL_F]
  simp only [O.ok_bind]
  obtain ⟨d, e⟩ := odd_loop xs 0 "" h
  show (forR (ρ := Option Int) stO (enF 0 xs) (.str "")).bind _ = _
  rw [e]
  cases placeG "" 0 xs <;> rfl
end Law
namespace Law
open PySem PySem.Spec PyProof.Rows L2 G
/-! ### rods -/
def rD (ns : List PySem.Str) : D → Option (PySem.Str × PySem.Str)
  | .tup [.str a, .str b] => if a ∈ ns ∧ b ∈ ns ∧ lt PyData.str a b = true then some (a, b) else none
  | _ => none
theorem rD_eq {ns : List PySem.Str} {x : D} {r : PySem.Str × PySem.Str} (h : rD ns x = some r) : x = eP D.str D.str r ∧ r.1 ∈ ns ∧ r.2 ∈ ns ∧ lt PyData.str r.1 r.2 = true := by
  unfold rD at h
  split at h
  · split at h
    · rename_i q
      cases h
      exact ⟨rfl, q⟩
    · cases h
  · cases h
theorem rD_len {ns : List PySem.Str} {xs : List D} (h : xs.length ≠ 2) : rD ns (.tup xs) = none := by
  unfold rD
  split
  · rename_i e
    cases e
    simp at h
  · rfl
theorem rD_tup {ns : List PySem.Str} {x : D} (h : ∀ xs, x ≠ .tup xs) : rD ns x = none := by
  unfold rD
  split
  · exact absurd rfl (h _)
  · rfl
def memD (ns : List PySem.Str) : D → Bool
  | .str a => decide (a ∈ ns)
  | _ => false
theorem lcO2 {f : D → O Bool} {a b : D} {x y : Bool} (ha : f a = .ok x) (hb : f b = .ok y) : lcO f [a, b] = .ok [x, y] := by
  refine Ok.eq ?_
  refine (Ok.lcO (fun d z => f d = .ok z) (by rw [sz]; simp) fun d hd => ?_).imp ?_
  · rcases List.mem_cons.mp hd with rfl | hd
    · exact ⟨x, ha, ha⟩
    · rw [List.mem_singleton.mp hd]; exact ⟨y, hb, hb⟩
  · intro l hl
    cases hl with
    | cons r1 h1 =>
      cases h1 with
      | cons r2 h2 =>
        cases h2
        rw [ha] at r1
        rw [hb] at r2
        cases r1
        cases r2
        rfl
theorem is_rod_D {ns : List PySem.Str} (hn : ∀ n ∈ ns, Nm n) {x : D} (h : WayD x) : t_is_rod x ns = .ok (rD ns x).isSome := by
  by_cases t : ∃ xs, x = .tup xs
  · obtain ⟨xs, rfl⟩ := t
    obtain ⟨q1, q2⟩ := h.tp xs rfl
    have e0 : isK .tuple (.tup xs) = .ok true := rfl
    have e1 : G.opI (dLen [.tup xs]) = .ok (xs.length : Int) := rfl
    unfold t_is_rod
    rw [e0, e1]
    simp only [O.ok_bind, Bool.not_true, Bool.false_eq_true, if_false]
    by_cases hl : xs.length = 2
    · obtain ⟨a, b, rfl⟩ := len2 hl
      have ha := q2 a (by simp)
      have hb := q2 b (by simp)
      rw [if_neg (by simp), show itD (.tup [a, b]) = .ok [a, b] from rfl]
      simp only [O.ok_bind]
      have step : ∀ d, In1 d → ((t_is_name d).bind fun v13 => (if v13 = true then ((opB (dIn d ((eL D.str) ns))).bind fun v15 => O.ok v15) else .ok false).bind fun v16 => O.ok v16) = .ok (memD ns d) := fun d hd => by
        rw [is_name_D hd]
        cases d with
        | str z =>
          have i1 : dIn (.str z) (eL D.str ns) = some (.bl (decide (z ∈ ns))) := ety_str.inL (by decide) z ns
          simp only [O.ok_bind, nmD, memD, i1, opB]
          by_cases m : z ∈ ns
          · rw [if_pos (decide_eq_true (hn z m))]
            rfl
          · rw [decide_eq_false m]
            split <;> rfl
        | _ => rfl
      rw [lcO2 (step a ha) (step b hb)]
      simp only [O.ok_bind, List.all_cons, List.all_nil, Bool.and_true]
      by_cases ma : memD ns a = true
      · obtain ⟨n, rfl⟩ : ∃ n, a = .str n := by cases a <;> first | exact ⟨_, rfl⟩ | cases ma
        by_cases mb : memD ns b = true
        · obtain ⟨m, rfl⟩ : ∃ n, b = .str n := by cases b <;> first | exact ⟨_, rfl⟩ | cases mb
          have h1 : n ∈ ns := of_decide_eq_true ma
          have h2 : m ∈ ns := of_decide_eq_true mb
          have l1 : dLt (.str n) (.str m) = some (.bl (lt PyData.str n m)) := ety_str.lt (by decide) n m
          rw [ma, mb, show opD (dIx (.tup [.str n, .str m]) (.int 0)) = .ok (.str n) from rfl, show opD (dIx (.tup [.str n, .str m]) (.int 1)) = .ok (.str m) from rfl]
          simp only [_root_.id, Bool.and_self, if_true, O.ok_bind, l1, opB]
          show O.ok (lt PyData.str n m) = O.ok (if n ∈ ns ∧ m ∈ ns ∧ lt PyData.str n m = true then some (n, m) else none).isSome
          by_cases hl : lt PyData.str n m = true
          · rw [if_pos ⟨h1, h2, hl⟩, hl]; rfl
          · rw [if_neg fun q => hl q.2.2, Bool.eq_false_iff.mpr hl]; rfl
        · have mb := Bool.eq_false_iff.mpr mb
          have : rD ns (.tup [.str n, b]) = none := by
            cases b with
            | str m => exact if_neg fun q => of_decide_eq_false mb q.2.1
            | _ => rfl
          rw [mb, this]
          simp
      · have ma := Bool.eq_false_iff.mpr ma
        have : rD ns (.tup [a, b]) = none := by
          cases a with
          | str n =>
            cases b with
            | str m => exact if_neg fun q => of_decide_eq_false ma q.1
            | _ => rfl
          | _ => rfl
        rw [ma, this]
        simp
    · rw [if_pos (by simpa using fun z => hl (by omega)), rD_len hl]
      rfl
  · have t : ∀ xs, x ≠ .tup xs := fun xs e => t ⟨xs, e⟩
    unfold t_is_rod
    rw [isTup_D h.no t, rD_tup t]
    rfl
end Law
namespace Law
open PySem PySem.Spec PyProof.Rows L2 G
abbrev ltR (a b : PySem.Str × PySem.Str) : Bool := lt (pP PyData.str PyData.str) a b
/-- the last rod: none yet, or this -/
def upR (l : Option (PySem.Str × PySem.Str)) (r : PySem.Str × PySem.Str) : Bool := match l with
  | none => true
  | some q => ltR q r
def goodR (ns : List PySem.Str) (l : Option (PySem.Str × PySem.Str)) (x : D) : Bool := match rD ns x with
  | some r => upR l r
  | none => false
/-- the number of the first that is no rod, or no higher one -/
def placeR (ns : List PySem.Str) (l : Option (PySem.Str × PySem.Str)) (k : Int) : List D → Option Int
  | [] => none
  | x :: xs => match rD ns x with
    | some r => if upR l r = true then placeR ns (some r) (k + 1) xs else some k
    | none => some k
noncomputable def stQ (ns : List PySem.Str) (x9 : Int × D) (last10 : D) : O (Stp D (Option Int)) :=
  (t_is_rod x9.2 ns).bind fun v11 =>
  (if (!v11) = true then .ok true else ((opB (dLe x9.2 last10)).bind fun v13 =>
  O.ok v13)).bind fun v14 =>
  if v14 = true then
  (O.ok (Stp.rt (some x9.1)))
  else
  (O.ok (Stp.on x9.2))
/-- what odd_rod compares with -/
def lastQ : Option (PySem.Str × PySem.Str) → PySem.Str × PySem.Str
  | none => ("", "")
  | some r => r
theorem up_q {ns : List PySem.Str} (hn : ∀ n ∈ ns, Nm n) {l : Option (PySem.Str × PySem.Str)} {r : PySem.Str × PySem.Str} (h : r.1 ∈ ns) : ltR (lastQ l) r = upR l r := by
  cases l with
  | some q => rfl
  | none =>
    show ltR ("", "") r = true
    have hx1 := hn _ h
    unfold ltR
    rw [lt_pP ety_str ety_str, if_neg]
    · exact nm_ne hx1
    · intro z
      exact hx1.1 (by rw [← show ("" : PySem.Str) = r.1 from z]; rfl)
theorem oddr_loop {ns : List PySem.Str} (hn : ∀ n ∈ ns, Nm n) : ∀ (xs : List D) (k : Int) (l : Option (PySem.Str × PySem.Str)), (∀ x ∈ xs, WayD x) → ∃ d, forR (ρ := Option Int) (stQ ns) (enF k xs) (eP D.str D.str (lastQ l)) = .ok (match placeR ns l k xs with | some j => .inl (some j) | none => .inr d)
  | [], k, l, _ => ⟨_, rfl⟩
  | x :: xs, k, l, h => by
    have hx := h x (List.mem_cons_self ..)
    rw [enF, forR]
    unfold stQ placeR
    simp only [is_rod_D hn hx, O.ok_bind]
    cases e : rD ns x with
    | none => exact ⟨.non, rfl⟩
    | some r =>
      obtain ⟨rfl, m1, _⟩ := rD_eq e
      have le1 : dLe (eP D.str D.str r) (eP D.str D.str (lastQ l)) = some (.bl (!ltR (lastQ l) r)) := (ety_p ety_str ety_str).le (by decide) r (lastQ l)
      simp only [Option.isSome_some, Bool.not_true, Bool.false_eq_true, if_false, O.ok_bind, le1, opB, up_q hn m1]
      by_cases hl : upR l r = true
      · simp only [hl, Bool.not_true, Bool.false_eq_true, if_false, if_true, O.ok_bind]
        exact oddr_loop hn xs (k + 1) (some r) fun y q => h y (List.mem_cons_of_mem _ q)
      · have hl := Bool.eq_false_iff.mpr hl
        simp only [hl]
        exact ⟨.non, rfl⟩
theorem odd_rod_D {ns : List PySem.Str} (hn : ∀ n ∈ ns, Nm n) {xs : List D} (h : ∀ x ∈ xs, WayD x) : t_odd_rod (.tup xs) ns = .ok (placeR ns none 0 xs) := by
  unfold t_odd_rod
  rw [show ofO ((dSq (.tup xs)).map enL) = .ok (enL xs) from rfl, enL_F]
  simp only [O.ok_bind]
  obtain ⟨d, e⟩ := oddr_loop hn xs 0 none h
  show (forR (ρ := Option Int) (stQ ns) (enF 0 xs) (eP D.str D.str (lastQ none))).bind _ = _
  rw [e]
  cases placeR ns none 0 xs <;> rfl
end Law
/-! M06a: the text of a moor. -/
namespace Law
open PySem PySem.Spec PyProof.Rows L2 G
/-! ### texts -/
def tsI (n : Int) : PySem.Str := Str.ofString (toString n)
def gS (g : PySem.Str × Int) : PySem.Str := (("gauge " ++ g.1) ++ " ") ++ tsI g.2
def rS (r : PySem.Str × PySem.Str) : PySem.Str := (("rod " ++ r.1) ++ " ") ++ r.2
def txL (gs : List (PySem.Str × Int)) (rs : List (PySem.Str × PySem.Str)) : List PySem.Str := gs.map gS ++ rs.map rS
def tx (gs : List (PySem.Str × Int)) (rs : List (PySem.Str × PySem.Str)) : PySem.Str := PySem.Txt.join "\n" (txL gs rs)
theorem tsI_tl {n : Int} (h0 : 0 ≤ n) : TL.tl (tsI n) = TL.numL n.toNat := by
  have := TL.tl_num n.toNat
  rw [Int.toNat_of_nonneg h0] at this
  exact this
theorem tsI_len {n : Int} (h0 : 0 ≤ n) (h : n ≤ 1000000000) : (tsI n).length ≤ 10 := by
  rw [TL.len_tl, tsI_tl h0]
  exact TL.numL_len (by decide) (by omega)
theorem fmB {n : Int} (h0 : 0 ≤ n) (h : n ≤ 1000000000) : G.opS (dFm (.int n)) = .ok (tsI n) := by
  have hl : n.natAbs.log2 < 1920 := by
    by_cases z : n.natAbs = 0
    · rw [z]; decide
    · have := (Nat.log2_lt z).mpr (show n.natAbs < 2 ^ 30 by omega)
      omega
  show G.opS (if n.natAbs.log2 < 1920 then _ else _) = _
  rw [if_pos hl]
  rfl
theorem catS_eq {x y : PySem.Str} (h : x.length + y.length ≤ 1000000) : catS x y = .ok (x ++ y) := by
  unfold catS
  rw [if_pos (by rw [strLen_append, sz]; omega)]
theorem addS_eq {x y : PySem.Str} (h : x.length + y.length ≤ 1000000) : addS x y = .ok (x ++ y) := Ok.eq (Ok.grd (by rw [sz]; omega) rfl)
theorem fmS_eq {x : PySem.Str} (h : x.length ≤ 1000000) : fmS x = .ok x := Ok.eq (Ok.grd (by rw [sz]; omega) rfl)
theorem em_app (x : PySem.Str) : Str.empty ++ x = x := TL.ext_tl (by rw [TL.tl_append]; rfl)
theorem l_g : PySem.Str.length ("gauge " : PySem.Str) = 6 := rfl
theorem l_r : PySem.Str.length ("rod " : PySem.Str) = 4 := rfl
theorem l_s : PySem.Str.length (" " : PySem.Str) = 1 := rfl
theorem l_n : PySem.Str.length ("\n" : PySem.Str) = 1 := rfl
theorem l_e : PySem.Str.length Str.empty = 0 := rfl
theorem gS_len {g : PySem.Str × Int} (h : Nm g.1) (ht : 0 ≤ g.2 ∧ g.2 ≤ 1000000000) : (gS g).length ≤ 30 := by
  have := nm_len h
  have := tsI_len ht.1 ht.2
  unfold gS
  rw [strLen_append, strLen_append, strLen_append, l_g, l_s]
  omega
theorem rS_len {r : PySem.Str × PySem.Str} (h : Nm r.1) (h2 : Nm r.2) : (rS r).length ≤ 30 := by
  have := nm_len h
  have := nm_len h2
  unfold rS
  rw [strLen_append, strLen_append, strLen_append, l_r, l_s]
  omega
/-! ### signs that a word doesn't have -/
theorem nm_free {x : PySem.Str} (h : Nm x) {s : Nat} (hs : s < 97 ∨ 122 < s) : s ∉ TL.tl x := fun hm => by
  have := h.2.2 s hm
  unfold Sg1 at this
  omega
theorem num_free {n : Int} (h0 : 0 ≤ n) {s : Nat} (hs : s < 48 ∨ 57 < s) : s ∉ TL.tl (tsI n) := by
  rw [tsI_tl h0]
  exact TL.numL_free hs
theorem splO_ok {a b : PySem.Str} (hb : (b.length == 0) = false) (ha : a.length + 2 ≤ 16777216) : splO a b = .ok (PySem.Txt.split a b) := Ok.eq (by unfold splO; exact Ok.grd ⟨hb, by rw [sz]; exact ha⟩ rfl)
theorem join3 (a b c : PySem.Str) : PySem.Txt.join " " [a, b, c] = ((a ++ " ") ++ b ++ " ") ++ c := by
  refine TL.ext_tl ?_
  rw [TL.join_eq, TL.tl_join]
  simp only [List.map_cons, List.map_nil, TL.joinL, TL.tl_append, List.append_assoc]
/-! ### a word of figures -/
theorem numL_head {n : Nat} (h : 0 < n) : ∀ c l, TL.numL n = c :: l → c ≠ 48 := by
  induction n using Nat.strongRecOn with
  | _ n ih =>
    intro c l e
    by_cases hn : n < 10
    · rw [TL.numL_lt hn] at e
      cases e
      omega
    · rw [TL.numL_step (by omega)] at e
      cases e2 : TL.numL (n / 10) with
      | nil => exact absurd e2 (TL.numL_ne _)
      | cons d m =>
        rw [e2, List.cons_append] at e
        injection e with e3 e4
        rw [← e3]
        exact ih (n / 10) (by omega) (by omega) d m e2
theorem figs_cps : ("0123456789" : PySem.Str).cps.toList = [48, 49, 50, 51, 52, 53, 54, 55, 56, 57] := by decide
end Law
/-! M06b: the text of a moor is told, and read back. -/
namespace Law
open PySem PySem.Spec PyProof.Rows L2 G
section
variable {gs : List (PySem.Str × Int)} {rs : List (PySem.Str × PySem.Str)}
theorem gok_nil : GOk [] := ⟨by decide, nofun, nofun, .nil⟩
theorem rok_nil : ROk [] [] := ⟨by decide, nofun, nofun, .nil⟩
theorem rok_0 : ROk gs [] := ⟨by decide, nofun, nofun, .nil⟩
theorem nm_of (Gk : GOk gs) {x : PySem.Str} (h : x ∈ gs.map (·.1)) : Nm x := by
  obtain ⟨g, hg, rfl⟩ := List.mem_map.mp h
  exact Gk.nm g hg
theorem rnm (Gk : GOk gs) (R : ROk gs rs) {r : PySem.Str × PySem.Str} (h : r ∈ rs) : Nm r.1 ∧ Nm r.2 := ⟨nm_of Gk (R.nm r h).1, nm_of Gk (R.nm r h).2⟩
theorem sum_len {α : Type} {f : α → Nat} {n : Nat} : ∀ {xs : List α}, (∀ x ∈ xs, f x ≤ n) → (xs.map f).sum ≤ xs.length * n
  | [], _ => by simp
  | x :: xs, h => by
    have h1 := h x (List.mem_cons_self ..)
    have h2 := sum_len (xs := xs) fun y hy => h y (List.mem_cons_of_mem _ hy)
    rw [List.map_cons, List.sum_cons, List.length_cons, Nat.add_mul]
    omega
theorem txL_each (Gk : GOk gs) (R : ROk gs rs) : ∀ x ∈ txL gs rs, x.length ≤ 30 ∧ TL.tl x ≠ [] ∧ 10 ∉ TL.tl x := fun x hx => by
  unfold txL at hx
  rcases List.mem_append.mp hx with hx | hx
  · obtain ⟨g, hg, rfl⟩ := List.mem_map.mp hx
    refine ⟨gS_len (Gk.nm g hg) (Gk.tp g hg), ?_, ?_⟩
    · unfold gS
      simp only [TL.tl_append]
      intro z
      simp only [List.append_eq_nil_iff] at z
      exact absurd z.1.1.1 (by decide)
    · unfold gS
      simp only [TL.tl_append, List.mem_append, not_or]
      exact ⟨⟨⟨by decide, nm_free (Gk.nm g hg) (by omega)⟩, by decide⟩, num_free (Gk.tp g hg).1 (by omega)⟩
  · obtain ⟨r, hr, rfl⟩ := List.mem_map.mp hx
    obtain ⟨h1, h2⟩ := rnm Gk R hr
    refine ⟨rS_len h1 h2, ?_, ?_⟩
    · unfold rS
      simp only [TL.tl_append]
      intro z
      simp only [List.append_eq_nil_iff] at z
      exact absurd z.1.1.1 (by decide)
    · unfold rS
      simp only [TL.tl_append, List.mem_append, not_or]
      exact ⟨⟨⟨by decide, nm_free h1 (by omega)⟩, by decide⟩, nm_free h2 (by omega)⟩
theorem txL_len (Gk : GOk gs) (R : ROk gs rs) : (txL gs rs).length = gs.length + rs.length ∧ (txL gs rs).length ≤ 1012 := by
  have := Gk.ln
  have := R.ln
  unfold txL
  rw [List.length_append, List.length_map, List.length_map]
  omega
theorem join_tx (Gk : GOk gs) (R : ROk gs rs) : joinO "\n" (txL gs rs) = .ok (tx gs rs) := by
  refine Ok.eq (Ok.grd ?_ rfl)
  have h1 := sum_len (f := (·.length)) (n := 30) fun x hx => (txL_each Gk R x hx).1
  have h2 := (txL_len Gk R).2
  rw [l_n]
  omega
theorem str_mo (Gk : GOk gs) (R : ROk gs rs) : t_Moor_str (mo gs rs) = .ok (tx gs rs) := by
  have hg := Gk.ln
  have hr := R.ln
  have hz := sz
  unfold t_Moor_str
  rw [mo_gs, mo_rs]
  simp only [O.ok_bind]
  refine Ok.eq ?_
  refine (Ok.lcOe (g := gS) (Q := (· = gs.map gS)) (by omega) ?_ rfl).bd ?_
  · intro g hg
    have h1 := nm_len (Gk.nm g hg)
    have h2 := Gk.tp g hg
    have h3 := tsI_len h2.1 h2.2
    rw [catS_eq (by rw [l_e, l_g]; omega), em_app]
    simp only [O.ok_bind]
    rw [fmS_eq (by omega)]
    simp only [O.ok_bind]
    rw [catS_eq (by rw [l_g]; omega)]
    simp only [O.ok_bind]
    rw [catS_eq (by rw [strLen_append, l_g, l_s]; omega)]
    simp only [O.ok_bind]
    rw [fmB h2.1 h2.2]
    simp only [O.ok_bind]
    rw [catS_eq (by rw [strLen_append, strLen_append, l_g, l_s]; omega)]
    rfl
  rintro _ rfl
  refine (Ok.lcOe (g := rS) (Q := (· = rs.map rS)) (by omega) ?_ rfl).bd ?_
  · intro r hr
    obtain ⟨n1, n2⟩ := rnm Gk R hr
    have h1 := nm_len n1
    have h2 := nm_len n2
    rw [catS_eq (by rw [l_e, l_r]; omega), em_app]
    simp only [O.ok_bind]
    rw [fmS_eq (by omega)]
    simp only [O.ok_bind]
    rw [catS_eq (by rw [l_r]; omega)]
    simp only [O.ok_bind]
    rw [catS_eq (by rw [strLen_append, l_r, l_s]; omega)]
    simp only [O.ok_bind]
    rw [fmS_eq (by omega)]
    simp only [O.ok_bind]
    rw [catS_eq (by rw [strLen_append, strLen_append, l_r, l_s]; omega)]
    rfl
  rintro _ rfl
  have h3 := (txL_len Gk R).2
  refine (Ok.cat (Q := (· = txL gs rs)) (by rw [List.length_map, List.length_map]; omega) rfl).bd ?_
  rintro _ rfl
  rw [join_tx Gk R]
  exact ⟨_, rfl, rfl⟩
/-! ### read back -/
end
end Law
/-! M08a: any text cut; any word of figures. -/
namespace Law
open PySem PySem.Spec PyProof.Rows L2 G
/-! ### cut and joined -/
theorem pre1 (s c : Nat) (r : List Nat) : TL.pre [s] (c :: r) = (c == s) := by
  unfold TL.pre
  simp
theorem spl1 (s : Nat) (acc : List Nat) (c : Nat) (r : List Nat) : TL.spl [s] 0 acc (c :: r) = if c = s then acc :: TL.spl [s] 0 [] r else TL.spl [s] 0 (acc ++ [c]) r := by
  by_cases h : c = s
  · rw [if_pos h, TL.spl_hit (by rw [pre1]; simp [h])]
    rfl
  · rw [if_neg h, TL.spl_miss (by rw [pre1]; simp [h])]
theorem spl_ne (s : Nat) : ∀ (l acc : List Nat), TL.spl [s] 0 acc l ≠ []
  | [], acc => by rw [TL.spl_nil]; simp
  | c :: r, acc => by
    rw [spl1]
    split
    · simp
    · exact spl_ne s r _
theorem joinL_cons {S p : List Nat} {r : List (List Nat)} (h : r ≠ []) : TL.joinL S (p :: r) = p ++ (S ++ TL.joinL S r) := by
  cases r with
  | nil => exact absurd rfl h
  | cons q r => rfl
theorem joinL_spl (s : Nat) : ∀ (l acc : List Nat), TL.joinL [s] (TL.spl [s] 0 acc l) = acc ++ l
  | [], acc => by rw [TL.spl_nil]; simp [TL.joinL]
  | c :: r, acc => by
    rw [spl1]
    split
    · rename_i h
      rw [joinL_cons (spl_ne s r []), joinL_spl s r []]
      simp [h]
    · rw [joinL_spl s r]
      simp
theorem spl_len (s : Nat) : ∀ (l acc : List Nat), (∀ p ∈ TL.spl [s] 0 acc l, p.length ≤ acc.length + l.length) ∧ (TL.spl [s] 0 acc l).length ≤ l.length + 1
  | [], acc => by rw [TL.spl_nil]; simp
  | c :: r, acc => by
    rw [spl1]
    split
    · obtain ⟨h1, h2⟩ := spl_len s r []
      refine ⟨fun p hp => ?_, by simp only [List.length_cons]; omega⟩
      rcases List.mem_cons.mp hp with rfl | hp
      · omega
      · have := h1 p hp
        simp only [List.length_cons, List.length_nil] at this ⊢
        omega
    · obtain ⟨h1, h2⟩ := spl_len s r (acc ++ [c])
      refine ⟨fun p hp => ?_, by simp only [List.length_cons]; omega⟩
      have := h1 p hp
      simp only [List.length_append, List.length_cons, List.length_nil] at this ⊢
      omega
structure Sep (y : PySem.Str) (s : Nat) : Prop where
  t : TL.tl y = [s]
  k : y.cps.all (· < 256) = true
theorem sep_s : Sep " " 32 := ⟨by decide, by decide +kernel⟩
theorem sep_n : Sep "\n" 10 := ⟨by decide, by decide +kernel⟩
section
variable {x y : PySem.Str} {s : Nat}
theorem sp_map (h : Sep y s) : (PySem.Txt.split x y).map TL.tl = TL.spl [s] 0 [] (TL.tl x) := by
  rw [TL.split_spl x y (by rw [h.t]; simp) (TL.kind_ok h.k), h.t]
theorem sp_ne (h : Sep y s) : PySem.Txt.split x y ≠ [] := fun z => by
  have := sp_map (x := x) h
  rw [z] at this
  exact spl_ne s _ _ this.symm
theorem sp_join (h : Sep y s) : PySem.Txt.join y (PySem.Txt.split x y) = x := by
  refine TL.ext_tl ?_
  rw [TL.join_eq, TL.tl_join, h.t, sp_map h, joinL_spl]
  rfl
theorem sp_len (h : Sep y s) : (∀ p ∈ PySem.Txt.split x y, p.length ≤ x.length) ∧ (PySem.Txt.split x y).length ≤ x.length + 1 := by
  obtain ⟨h1, h2⟩ := spl_len s (TL.tl x) []
  rw [← sp_map h] at h1 h2
  constructor
  · intro p hp
    have := h1 _ (List.mem_map_of_mem hp)
    rw [TL.len_tl, TL.len_tl]
    simpa using this
  · rw [List.length_map] at h2
    rw [TL.len_tl]
    exact h2
end
theorem spl_ok {x y : PySem.Str} {s : Nat} (h : Sep y s) (hl : x.length ≤ 1000) : splO x y = .ok (PySem.Txt.split x y) := splO_ok (by
  have : y.length = 1 := by rw [TL.len_tl, h.t]; rfl
  rw [this]
  rfl) (by omega)
/-! ### figures -/
theorem dv_snoc (m : List Nat) (d : Nat) : NumText.digitsVal (m ++ [d]) = NumText.digitsVal m * 10 + (d - 48) := by
  unfold NumText.digitsVal
  rw [List.foldl_append]
  rfl
theorem can_l : ∀ (n : Nat) (l : List Nat), l.length = n → NumText.AllDigits l → l ≠ [] → (l.head? = some 48 → l = [48]) → TL.numL (NumText.digitsVal l) = l := by
  intro n
  induction n with
  | zero => exact fun l h _ hne => absurd (List.length_eq_zero_iff.mp h) hne
  | succ n ih =>
    intro l hl hd hne hh
    rcases List.eq_nil_or_concat l with z | ⟨m, d, z⟩
    · exact absurd z hne
    rw [List.concat_eq_append] at z
    subst z
    have hdd := hd d (List.mem_append_right _ (List.mem_singleton.mpr rfl))
    rw [dv_snoc]
    cases m with
    | nil =>
      show TL.numL (0 * 10 + (d - 48)) = _
      rw [TL.numL_lt (by omega)]
      simp
      omega
    | cons c m =>
      have h48 : c ≠ 48 := fun z => by
        subst z
        have := hh rfl
        simp at this
      have hm := ih (c :: m) (by simp at hl ⊢; omega) (fun x hx => hd x (List.mem_append_left _ hx)) (by simp) (fun z => by
        injection z with z
        exact absurd z h48)
      have hpos : 0 < NumText.digitsVal (c :: m) := by
        rcases Nat.eq_zero_or_pos (NumText.digitsVal (c :: m)) with z | z
        · rw [z] at hm
          have : TL.numL 0 = [48] := TL.numL_lt (by omega)
          rw [this] at hm
          injection hm with e1
          exact absurd e1.symm h48
        · exact z
      rw [TL.numL_step (by omega), show (NumText.digitsVal (c :: m) * 10 + (d - 48)) / 10 = NumText.digitsVal (c :: m) by omega, hm, show 48 + (NumText.digitsVal (c :: m) * 10 + (d - 48)) % 10 = d by omega]
theorem dv_lt (l : List Nat) : NumText.AllDigits l → NumText.digitsVal l < 10 ^ l.length := by
  have key : ∀ (l : List Nat) (a : Nat), NumText.AllDigits l → l.foldl (fun acc c => acc * 10 + (c - 48)) a < (a + 1) * 10 ^ l.length := by
    intro l
    induction l with
    | nil => intro a _; simp
    | cons c r ih =>
      intro a h
      have hc := h c (List.mem_cons_self ..)
      rw [List.foldl_cons, List.length_cons, Nat.pow_succ]
      have := ih (a * 10 + (c - 48)) fun x hx => h x (List.mem_cons_of_mem _ hx)
      have h2 : (a * 10 + (c - 48) + 1) * 10 ^ r.length ≤ ((a + 1) * 10) * 10 ^ r.length := Nat.mul_le_mul_right _ (by omega)
      have h3 : (a + 1) * (10 ^ r.length * 10) = ((a + 1) * 10) * 10 ^ r.length := by rw [Nat.mul_assoc (a + 1), Nat.mul_comm (10 ^ r.length)]
      omega
  intro h
  have := key l 0 h
  unfold NumText.digitsVal
  omega
open Classical in
/-- the number that a word of figures writes -/
noncomputable def figN (w : PySem.Str) : Option Int := if NumText.AllDigits (TL.tl w) ∧ TL.tl w ≠ [] ∧ ((TL.tl w).head? = some 48 → TL.tl w = [48]) then some (NumText.digitsVal (TL.tl w) : Nat) else none
theorem figN_some {w : PySem.Str} {n : Int} (h : figN w = some n) : NumText.AllDigits (TL.tl w) ∧ TL.tl w ≠ [] ∧ ((TL.tl w).head? = some 48 → TL.tl w = [48]) ∧ n = (NumText.digitsVal (TL.tl w) : Nat) := by
  unfold figN at h
  split at h
  · rename_i c
    injection h with h
    exact ⟨c.1, c.2.1, c.2.2, h.symm⟩
  · cases h
theorem fig_can {w : PySem.Str} {n : Int} (h : figN w = some n) : tsI n = w ∧ 0 ≤ n := by
  obtain ⟨h1, h2, h3, h4⟩ := figN_some h
  have h0 : 0 ≤ n := by omega
  refine ⟨TL.ext_tl ?_, h0⟩
  rw [tsI_tl h0, show n.toNat = NumText.digitsVal (TL.tl w) by omega]
  exact can_l _ _ rfl h1 h2 h3
theorem int_digits {w : PySem.Str} (hl : w.length ≤ 600) (h1 : NumText.AllDigits (TL.tl w)) (h2 : TL.tl w ≠ []) : intXO w = .ok ((NumText.digitsVal (TL.tl w) : Nat) : Int) := by
  have := intText_digits (x := w) h1 h2 (by omega)
  unfold intXO
  rw [this, Option.bind_some, if_pos (by omega)]
  rfl
theorem digs_all {w : PySem.Str} (hl : w.length ≤ 1000) : ∃ b : Bool, (lcO (fun (x6 : PySem.Str) => (inS x6 ("0123456789" : PySem.Str)).bind fun v8 => O.ok v8) (sgs w)).bind (fun v9 => O.ok (v9.all id)) = .ok b ∧ (b = true ↔ NumText.AllDigits (TL.tl w)) := by
  have hz := sz
  have e2 : lcO (fun (x6 : PySem.Str) => (inS x6 ("0123456789" : PySem.Str)).bind fun v8 => O.ok v8) (sgs w) = .ok ((TL.tl w).map fun c => decide (48 ≤ c ∧ c ≤ 57)) := by
    have := Ok.lcOe (f := fun (x6 : PySem.Str) => (inS x6 ("0123456789" : PySem.Str)).bind fun v8 => O.ok v8) (xs := sgs w) (g := fun x : PySem.Str => match TL.tl x with | [c] => decide (48 ≤ c ∧ c ≤ 57) | _ => false) (Q := (· = (TL.tl w).map fun c => decide (48 ≤ c ∧ c ≤ 57))) (by rw [sgs, List.length_map, ← TL.len_tl]; omega) (fun x hx => by
      obtain ⟨c, hc, rfl⟩ := List.mem_map.mp hx
      show (O.ok (decide (c ∈ ("0123456789" : PySem.Str).cps.toList))).bind _ = O.ok (decide (48 ≤ c ∧ c ≤ 57))
      rw [figs_cps]
      show O.ok _ = _
      congr 1
      exact decide_eq_decide.mpr (by simp only [List.mem_cons, List.not_mem_nil, or_false]; omega)) (by rw [sgs, List.map_map]; rfl)
    exact Ok.eq this
  rw [e2]
  refine ⟨_, rfl, ?_⟩
  rw [List.all_map, List.all_eq_true]
  constructor
  · intro h c hc
    have := h c hc
    simpa using this
  · intro h c hc
    simpa using h c hc
end Law
/-! M08b: words judged; a row added to a moor. -/
namespace Law
open PySem PySem.Spec PyProof.Rows L2 G
theorem digs_eq {w : PySem.Str} (hl : w.length ≤ 1000) : ∃ L : List Bool, lcO (fun (x6 : PySem.Str) => (inS x6 ("0123456789" : PySem.Str)).bind fun v8 => O.ok v8) (sgs w) = .ok L ∧ (L.all id = true ↔ NumText.AllDigits (TL.tl w)) := by
  obtain ⟨b, h1, h2⟩ := digs_all hl
  cases e : lcO (fun (x6 : PySem.Str) => (inS x6 ("0123456789" : PySem.Str)).bind fun v8 => O.ok v8) (sgs w) with
  | ok L =>
    rw [e] at h1
    injection h1 with h1
    exact ⟨L, rfl, by rw [h1]; exact h2⟩
  | er x => rw [e] at h1; cases h1
  | no => rw [e] at h1; cases h1
theorem figN_none {w : PySem.Str} (h : ¬ (NumText.AllDigits (TL.tl w) ∧ TL.tl w ≠ [] ∧ ((TL.tl w).head? = some 48 → TL.tl w = [48]))) : figN w = none := by
  unfold figN
  rw [if_neg h]
theorem figN_of {w : PySem.Str} (h : NumText.AllDigits (TL.tl w) ∧ TL.tl w ≠ [] ∧ ((TL.tl w).head? = some 48 → TL.tl w = [48])) : figN w = some ((NumText.digitsVal (TL.tl w) : Nat) : Int) := by
  unfold figN
  rw [if_pos h]
theorem str0 {w : PySem.Str} : w = "0" ↔ TL.tl w = [48] := ⟨fun h => by rw [h]; decide, fun h => TL.ext_tl (by rw [h]; decide)⟩
theorem strE {w : PySem.Str} : w = "" ↔ TL.tl w = [] := ⟨fun h => by rw [h]; decide, fun h => TL.ext_tl (by rw [h]; decide)⟩
theorem fig_w {w : PySem.Str} (hl : w.length ≤ 600) : t_figured w = .ok (figN w) := by
  have hz := sz
  obtain ⟨L, e2, hL⟩ := digs_eq (w := w) (by omega)
  unfold t_figured
  rw [e2]
  simp only [O.ok_bind]
  by_cases h0 : w = ""
  · rw [if_pos (decide_eq_true h0)]
    rw [figN_none fun h => h.2.1 (strE.mp h0)]
    rfl
  rw [if_neg (by simpa using h0)]
  simp only [O.ok_bind]
  have hne : TL.tl w ≠ [] := fun z => h0 (strE.mpr z)
  by_cases hd : NumText.AllDigits (TL.tl w)
  · rw [hL.mpr hd]
    simp only [Bool.not_true, Bool.false_eq_true, if_false]
    cases e5 : TL.tl w with
    | nil => exact absurd e5 hne
    | cons c l =>
      have e6 : ixS w (0 : Int) = .ok ⟨#[c]⟩ := by
        unfold ixS
        rw [if_pos (by omega), show w.cps.toList = c :: l from e5]
        simp [atI, ofO, ixN]
      rw [e6]
      simp only [O.ok_bind]
      have hc48 : ((⟨#[c]⟩ : PySem.Str) = "0") ↔ c = 48 := by
        rw [str0]
        show [c] = [48] ↔ _
        simp
      by_cases hc : c = 48
      · rw [if_pos (decide_eq_true (hc48.mpr hc))]
        simp only [O.ok_bind]
        by_cases hw : w = "0"
        · rw [if_neg (by simpa using hw), int_digits hl hd hne, figN_of ⟨hd, hne, fun _ => str0.mp hw⟩]
          rfl
        · rw [if_pos (by simpa using hw), figN_none fun h => hw (str0.mpr (h.2.2 (by rw [e5, hc]; rfl)))]
      · rw [if_neg (by simpa [hc48] using hc)]
        simp only [O.ok_bind, Bool.false_eq_true, if_false]
        rw [int_digits hl hd hne, figN_of ⟨hd, hne, fun h => absurd (by rw [e5] at h; injection h) hc⟩]
        rfl
  · rw [Bool.eq_false_iff.mpr (fun h => hd (hL.mp h)), figN_none fun h => hd h.1]
    rfl
theorem str_big {v : Nat} (h : v < 10 ^ 10) : G.opS (dStr [.int (v : Int)]) = .ok (tsI v) := by
  have hl : ((v : Nat) : Int).natAbs.log2 < 1920 := by
    rw [Int.natAbs_natCast]
    by_cases z : v = 0
    · rw [z]; decide
    · have := (Nat.log2_lt z).mpr (show v < 2 ^ 40 by omega)
      omega
  show G.opS (if ((v : Nat) : Int).natAbs.log2 < 1920 then _ else _) = _
  rw [if_pos hl]
  rfl
theorem lenS_ok {w : PySem.Str} (hl : w.length ≤ 1000) : lenS w = .ok (w.length : Int) := Ok.eq (Ok.grd (by rw [sz]; omega) rfl)
theorem high_w {w : PySem.Str} (hl : w.length ≤ 600) : t_law_is_high w = .ok (decide (∃ n, figN w = some n ∧ n ≤ 1000000000)) := by
  have hz := sz
  obtain ⟨L, e2, hL⟩ := digs_eq (w := w) (by omega)
  unfold t_law_is_high
  rw [e2, lenS_ok (by omega)]
  simp only [O.ok_bind]
  by_cases h0 : w = ""
  · rw [if_pos (decide_eq_true h0)]
    simp only [O.ok_bind, if_true]
    rw [decide_eq_false]
    rintro ⟨n, h, -⟩
    exact (figN_some h).2.1 (strE.mp h0)
  rw [if_neg (by simpa using h0)]
  have hne : TL.tl w ≠ [] := fun z => h0 (strE.mpr z)
  have hlt := TL.len_tl w
  by_cases h10 : 10 < w.length
  · rw [if_pos (decide_eq_true (by omega))]
    simp only [O.ok_bind, if_true]
    rw [decide_eq_false]
    rintro ⟨n, h, hn⟩
    obtain ⟨h1, h2⟩ := fig_can h
    have := tsI_len h2 hn
    rw [h1] at this
    omega
  rw [if_neg (by simp; omega)]
  simp only [O.ok_bind]
  by_cases hd : NumText.AllDigits (TL.tl w)
  · rw [hL.mpr hd]
    simp only [Bool.not_true, Bool.false_eq_true, if_false]
    have hv := dv_lt _ hd
    have hv2 : NumText.digitsVal (TL.tl w) < 10 ^ 10 := Nat.lt_of_lt_of_le hv (Nat.pow_le_pow_right (by decide) (by omega))
    rw [int_digits hl hd hne]
    simp only [O.ok_bind]
    rw [str_big hv2]
    simp only [O.ok_bind]
    by_cases hc : tsI ((NumText.digitsVal (TL.tl w) : Nat) : Int) = w
    · rw [if_pos (decide_eq_true hc)]
      simp only [O.ok_bind, O.bind_ok]
      congr 1
      refine decide_eq_decide.mpr ⟨fun h => ⟨_, figN_of ⟨hd, hne, fun h48 => ?_⟩, h⟩, fun ⟨n, h, hn⟩ => ?_⟩
      · have ht := tsI_tl (n := ((NumText.digitsVal (TL.tl w) : Nat) : Int)) (by omega)
        rw [hc, Int.toNat_natCast] at ht
        rcases Nat.eq_zero_or_pos (NumText.digitsVal (TL.tl w)) with z | z
        · rw [z] at ht
          rw [ht]
          exact TL.numL_lt (by omega)
        · cases e5 : TL.numL (NumText.digitsVal (TL.tl w)) with
          | nil => exact absurd e5 (TL.numL_ne _)
          | cons c l =>
            have := numL_head z c l e5
            rw [ht, e5] at h48
            injection h48 with h48
            exact absurd h48 this
      · rw [(figN_some h).2.2.2] at hn
        exact hn
    · rw [if_neg (by simpa using hc)]
      simp only [O.ok_bind]
      rw [decide_eq_false]
      rintro ⟨n, h, -⟩
      have := (fig_can h).1
      rw [(figN_some h).2.2.2] at this
      exact hc this
  · rw [Bool.eq_false_iff.mpr (fun h => hd (hL.mp h))]
    simp only [Bool.not_false, if_true]
    rw [decide_eq_false]
    rintro ⟨n, h, -⟩
    exact hd (figN_some h).1
theorem call_w {w : PySem.Str} (hl : w.length ≤ 600) : t_law_is_call w = .ok (decide (Nm w)) := by
  have hz := sz
  have hlt := str_len w
  unfold t_law_is_call
  rw [lenS_ok (by omega)]
  simp only [O.ok_bind]
  by_cases h6 : 1 ≤ w.cps.toList.length ∧ w.cps.toList.length ≤ 6
  · rw [if_pos (decide_eq_true (by omega)), show decide ((w.length : Int) < 7) = true from decide_eq_true (by omega)]
    simp only [O.ok_bind, if_true, O.bind_ok]
    refine Ok.eq ?_
    refine (Ok.lcOe (g := fun s : PySem.Str => decide (s.cps.toList.all (fun c => decide (Sg1 c)) = true)) (Q := fun l => l.all id = decide (Nm w)) (by rw [sgs, List.length_map]; omega) ?_ ?_).bd ?_
    · intro s hs
      obtain ⟨c, hc, rfl⟩ := List.mem_map.mp hs
      show O.ok (decide (c ∈ ltrs.cps.toList)) = O.ok (decide (([c].all fun c => decide (Sg1 c)) = true))
      congr 1
      exact decide_eq_decide.mpr (by rw [mem_ltrs]; simp)
    · rw [Bool.eq_iff_iff, sgs, List.all_map, List.all_map, List.all_eq_true, decide_eq_true_iff]
      constructor
      · intro h
        refine ⟨fun z => ?_, h6.2, fun c hc => ?_⟩
        · rw [z] at h6; simp at h6
        · have := h c hc
          simpa using this
      · intro h c hc
        have := h.2.2 c hc
        simpa using this
    · intro l hl
      exact Ok.ret hl
  · have e : (if decide ((0 : Int) < (w.length : Int)) = true then O.ok (decide ((w.length : Int) < 7)) else O.ok false) = .ok false := by
      by_cases h1 : 1 ≤ w.cps.toList.length
      · rw [if_pos (decide_eq_true (by omega)), decide_eq_false (by omega)]
      · rw [if_neg (by simp; omega)]
    rw [e]
    simp only [O.ok_bind, Bool.false_eq_true, if_false]
    congr 1
    refine (decide_eq_false fun h => h6 ⟨?_, h.2.1⟩).symm
    exact List.length_pos_iff.mpr h.1
/-! ### a row added -/
abbrev GS := List (PySem.Str × Int)
abbrev RSd := List (PySem.Str × PySem.Str)
structure OkG (gs : GS) (rs : RSd) (a b : PySem.Str) (n : Int) : Prop where
  r0 : rs = []
  ln : gs.length < 12
  up : ∀ g, gs.getLast? = some g → sLt g.1 a
  nm : Nm a
  fg : figN b = some n
  le : n ≤ 1000000000
structure OkR (gs : GS) (rs : RSd) (a b : PySem.Str) : Prop where
  lt : sLt a b
  m1 : a ∈ gs.map (·.1)
  m2 : b ∈ gs.map (·.1)
  up : ∀ r, rs.getLast? = some r → rLt r (a, b)
def Nx (gs : GS) (rs : RSd) (l : List PySem.Str) (gs' : GS) (rs' : RSd) : Prop :=
  (∃ (a b : PySem.Str) (n : Int), l = [("gauge" : PySem.Str), a, b] ∧ OkG gs rs a b n ∧ gs' = gs ++ [(a, n)] ∧ rs' = rs) ∨ (∃ (a b : PySem.Str), l = [("rod" : PySem.Str), a, b] ∧ OkR gs rs a b ∧ gs' = gs ∧ rs' = rs ++ [(a, b)])
theorem rodne : ("rod" : PySem.Str) ≠ "gauge" := by decide
section
variable {gs gs' : GS} {rs rs' : RSd} {l : List PySem.Str}
theorem nx_g {a b : PySem.Str} (h : Nx gs rs [("gauge" : PySem.Str), a, b] gs' rs') : ∃ n, OkG gs rs a b n ∧ gs' = gs ++ [(a, n)] ∧ rs' = rs := by
  rcases h with ⟨a', b', n, e, h⟩ | ⟨a', b', e, h⟩
  · injection e with _ e
    injection e with e1 e
    injection e with e2 _
    subst e1 e2
    exact ⟨n, h⟩
  · injection e with e _
    exact absurd e.symm rodne
theorem nx_r {a b : PySem.Str} (h : Nx gs rs [("rod" : PySem.Str), a, b] gs' rs') : OkR gs rs a b ∧ gs' = gs ∧ rs' = rs ++ [(a, b)] := by
  rcases h with ⟨a', b', n, e, h⟩ | ⟨a', b', e, h⟩
  · injection e with e _
    exact absurd e rodne
  · injection e with _ e
    injection e with e1 e
    injection e with e2 _
    subst e1 e2
    exact h
theorem pw_snoc {α : Type} {R : α → α → Prop} (tr : ∀ a b c, R a b → R b c → R a c) {xs : List α} {y : α} (h : xs.Pairwise R) (hl : ∀ x, xs.getLast? = some x → R x y) : (xs ++ [y]).Pairwise R := by
  rw [List.pairwise_append]
  refine ⟨h, List.pairwise_singleton _ _, fun x hx z hz => ?_⟩
  rw [List.mem_singleton.mp hz]
  rcases List.eq_nil_or_concat xs with e | ⟨m, d, e⟩
  · rw [e] at hx; cases hx
  · rw [List.concat_eq_append] at e
    subst e
    have hd := hl d (by simp)
    rcases List.mem_append.mp hx with hx | hx
    · exact tr _ _ _ ((List.pairwise_append.mp h).2.2 x hx d (List.mem_singleton.mpr rfl)) hd
    · rw [List.mem_singleton.mp hx]; exact hd
theorem sLt_tr (a b c : PySem.Str) (h1 : sLt a b) (h2 : sLt b c) : sLt a c := lt_trans h1 h2
theorem rLt_tr (a b c : PySem.Str × PySem.Str) (h1 : rLt a b) (h2 : rLt b c) : rLt a c := lt_trans h1 h2
theorem okG_gok (Gk : GOk gs) {a b : PySem.Str} {n : Int} (h : OkG gs rs a b n) : GOk (gs ++ [(a, n)]) := by
  have hn := (fig_can h.fg).2
  have hl := h.le
  refine ⟨by have := h.ln; simp; omega, fun g hg => ?_, fun g hg => ?_, ?_⟩
  · rcases List.mem_append.mp hg with hg | hg
    · exact Gk.nm g hg
    · rw [List.mem_singleton.mp hg]; exact h.nm
  · rcases List.mem_append.mp hg with hg | hg
    · exact Gk.tp g hg
    · rw [List.mem_singleton.mp hg]; exact ⟨hn, hl⟩
  · rw [List.map_append]
    refine pw_snoc sLt_tr Gk.up fun x hx => ?_
    rw [List.getLast?_map] at hx
    obtain ⟨g, hg, rfl⟩ := Option.map_eq_some_iff.mp hx
    exact h.up g hg
theorem okR_rok (R : ROk gs rs) (hl : rs.length < 1000) {a b : PySem.Str} (h : OkR gs rs a b) : ROk gs (rs ++ [(a, b)]) := by
  refine ⟨by simp; omega, fun r hr => ?_, fun r hr => ?_, pw_snoc rLt_tr R.up h.up⟩
  · rcases List.mem_append.mp hr with hr | hr
    · exact R.nm r hr
    · rw [List.mem_singleton.mp hr]; exact ⟨h.m1, h.m2⟩
  · rcases List.mem_append.mp hr with hr | hr
    · exact R.lt r hr
    · rw [List.mem_singleton.mp hr]; exact h.lt
end
end Law
/-! M08c: a row judged by the law, and by the program. -/
namespace Law
open PySem PySem.Spec PyProof.Rows L2 G
theorem ix_lst {α : Type} {xs : List α} {x : α} (h : xs.getLast? = some x) : ixL xs (-(1 : Int)) = .ok x := by
  have hne : xs ≠ [] := fun z => by rw [z] at h; cases h
  have hl := List.length_pos_iff.mpr hne
  have e : ixN xs.length (-1) = some (xs.length - 1) := by
    unfold ixN
    rw [if_neg (by omega)]
    have h2 : ((xs.length : Int) + -1).toNat = xs.length - 1 := by omega
    simp [h2]
    omega
  unfold ixL atI
  rw [e, Option.bind_some, ← List.getLast?_eq_getElem?, h]
  rfl
theorem lst_of {α : Type} {xs : List α} (h : xs ≠ []) : ∃ x, xs.getLast? = some x := ⟨_, List.getLast?_eq_some_getLast h⟩
section
variable {gs gs' : GS} {rs rs' : RSd} {l : List PySem.Str}
theorem nx_3 (h : Nx gs rs l gs' rs') : ∃ w a b, l = [w, a, b] ∧ (w = "gauge" ∨ w = "rod") := by
  rcases h with ⟨a, b, n, e, -⟩ | ⟨a, b, e, -⟩
  · exact ⟨_, a, b, e, .inl rfl⟩
  · exact ⟨_, a, b, e, .inr rfl⟩
theorem len3 {α : Type} {l : List α} (h : l.length = 3) : ∃ w a b, l = [w, a, b] := by
  match l, h with
  | [w, a, b], _ => exact ⟨w, a, b, rfl⟩
theorem fresh_ok {a : PySem.Str} {w b : PySem.Str} : (if decide (gs = []) = true then O.ok true else ((ixL [w, a, b] (1 : Int)).bind fun v7 => (ixL gs (-(1 : Int))).bind fun v8 => O.ok (lt PyData.str v8.1 v7))) = .ok (decide (∀ g, gs.getLast? = some g → sLt g.1 a)) := by
  by_cases h : gs = []
  · rw [if_pos (decide_eq_true h)]
    congr 1
    exact (decide_eq_true fun g hg => by rw [h] at hg; cases hg).symm
  · rw [if_neg (by simpa using h)]
    obtain ⟨g, hg⟩ := lst_of h
    rw [ix_lst hg, show ixL [w, a, b] (1 : Int) = .ok a from rfl]
    simp only [O.ok_bind]
    congr 1
    rw [Bool.eq_iff_iff, decide_eq_true_iff]
    exact ⟨fun hh g' hg' => by rw [hg] at hg'; cases hg'; exact hh, fun hh => hh g hg⟩
theorem lastR_ok {a : PySem.Str} {w b : PySem.Str} : (if decide (rs = []) = true then O.ok true else ((ixL rs (-(1 : Int))).bind fun v88 => (ixL [w, a, b] (1 : Int)).bind fun v89 => (ixL [w, a, b] (2 : Int)).bind fun v90 => O.ok (lt (pP PyData.str PyData.str) v88 (v89, v90)))) = .ok (decide (∀ r, rs.getLast? = some r → rLt r (a, b))) := by
  by_cases h : rs = []
  · rw [if_pos (decide_eq_true h)]
    congr 1
    exact (decide_eq_true fun g hg => by rw [h] at hg; cases hg).symm
  · rw [if_neg (by simpa using h)]
    obtain ⟨g, hg⟩ := lst_of h
    rw [ix_lst hg, show ixL [w, a, b] (1 : Int) = .ok a from rfl, show ixL [w, a, b] (2 : Int) = .ok b from rfl]
    simp only [O.ok_bind]
    congr 1
    rw [Bool.eq_iff_iff, decide_eq_true_iff]
    exact ⟨fun hh g' hg' => by rw [hg] at hg'; cases hg'; exact hh, fun hh => hh g hg⟩
open Classical in
theorem adds_ok (Gk : GOk gs) (hw : ∀ p ∈ l, p.length ≤ 600) : t_law_adds l gs rs = .ok (decide (∃ p : GS × RSd, Nx gs rs l p.1 p.2), gs, rs) := by
  have hz := sz
  have hg := Gk.ln
  unfold t_law_adds
  by_cases h3 : l.length = 3
  · obtain ⟨w, a, b, rfl⟩ := len3 h3
    have ha := hw a (by simp)
    have hb := hw b (by simp)
    rw [if_neg (by simp), show ixL [w, a, b] (0 : Int) = .ok w from rfl]
    simp only [O.ok_bind]
    by_cases hwg : w = "gauge"
    · subst hwg
      rw [if_pos (by simp), fresh_ok]
      simp only [O.ok_bind]
      rw [show ixL [("gauge" : PySem.Str), a, b] (1 : Int) = .ok a from rfl, show ixL [("gauge" : PySem.Str), a, b] (2 : Int) = .ok b from rfl]
      simp only [O.ok_bind]
      rw [call_w ha, high_w hb]
      simp only [O.ok_bind]
      have key : ∀ c : Bool, (c = true ↔ ∃ n, OkG gs rs a b n) → c = decide (∃ p : GS × RSd, Nx gs rs [("gauge" : PySem.Str), a, b] p.1 p.2) := fun c hc => by
        rw [Bool.eq_iff_iff, hc, decide_eq_true_iff]
        constructor
        · rintro ⟨n, h⟩
          exact ⟨(gs ++ [(a, n)], rs), .inl ⟨a, b, n, rfl, h, rfl, rfl⟩⟩
        · rintro ⟨p, h⟩
          obtain ⟨n, h, -⟩ := nx_g h
          exact ⟨n, h⟩
      by_cases c1 : rs = []
      · rw [if_pos (by simpa using c1)]
        by_cases c2 : gs.length < 12
        · rw [if_pos (decide_eq_true (by omega))]
          by_cases c3 : ∀ g, gs.getLast? = some g → sLt g.1 a
          · rw [if_pos (decide_eq_true c3)]
            by_cases c4 : Nm a
            · rw [if_pos (decide_eq_true c4)]
              simp only [O.ok_bind]
              rw [key (decide (∃ n, figN b = some n ∧ n ≤ 1000000000)) (by
                rw [decide_eq_true_iff]
                exact ⟨fun ⟨n, h, h2⟩ => ⟨n, c1, c2, c3, c4, h, h2⟩, fun ⟨n, h⟩ => ⟨n, h.fg, h.le⟩⟩)]
            · rw [if_neg (by simpa using c4)]
              simp only [O.ok_bind]
              rw [key false ⟨fun z => (by cases z), fun ⟨n, h⟩ => absurd h.nm c4⟩]
          · rw [if_neg (by simpa using c3)]
            simp only [O.ok_bind]
            rw [key false ⟨fun z => (by cases z), fun ⟨n, h⟩ => absurd h.up c3⟩]
        · rw [if_neg (by simp; omega)]
          simp only [O.ok_bind]
          rw [key false ⟨fun z => (by cases z), fun ⟨n, h⟩ => absurd h.ln c2⟩]
      · rw [if_neg (by simpa using c1)]
        simp only [O.ok_bind]
        rw [key false ⟨fun z => (by cases z), fun ⟨n, h⟩ => absurd h.r0 c1⟩]
    · rw [if_neg (by simpa using hwg), show ixL [w, a, b] (1 : Int) = .ok a from rfl, show ixL [w, a, b] (2 : Int) = .ok b from rfl]
      simp only [O.ok_bind]
      have nog : ∀ {p : GS × RSd}, Nx gs rs [w, a, b] p.1 p.2 → w = "rod" := fun {p} h => by
        obtain ⟨w', a', b', e, h⟩ := nx_3 h
        injection e with e _
        subst e
        rcases h with h | h
        · exact absurd h hwg
        · exact h
      by_cases hwr : w = "rod"
      · subst hwr
        rw [if_neg (by simp)]
        have key : ∀ c : Bool, (c = true ↔ OkR gs rs a b) → c = decide (∃ p : GS × RSd, Nx gs rs [("rod" : PySem.Str), a, b] p.1 p.2) := fun c hc => by
          rw [Bool.eq_iff_iff, hc, decide_eq_true_iff]
          constructor
          · intro h
            exact ⟨(gs, rs ++ [(a, b)]), .inr ⟨a, b, rfl, h, rfl, rfl⟩⟩
          · rintro ⟨p, h⟩
            exact (nx_r h).1
        simp only [O.ok_bind]
        by_cases c1 : lt PyData.str a b = true
        · rw [if_neg (by simpa using c1)]
          rw [show lcM (fun (x79 : PySem.Str × Int) => x79.1) gs = .ok (gs.map (·.1)) from Ok.eq (Ok.lcM (Q := (· = _)) (by omega) rfl)]
          simp only [O.ok_bind]
          by_cases c2 : a ∈ gs.map (·.1)
          · rw [if_neg (by simpa using c2)]
            simp only [O.ok_bind]
            by_cases c3 : b ∈ gs.map (·.1)
            · rw [if_neg (by simpa using c3)]
              have := lastR_ok (rs := rs) (a := a) (b := b) (w := "rod")
              rw [show ixL [("rod" : PySem.Str), a, b] (1 : Int) = .ok a from rfl, show ixL [("rod" : PySem.Str), a, b] (2 : Int) = .ok b from rfl] at this
              simp only [O.ok_bind] at this
              rw [this]
              simp only [O.ok_bind]
              rw [key (decide (∀ r, rs.getLast? = some r → rLt r (a, b))) (by
                rw [decide_eq_true_iff]
                exact ⟨fun h => ⟨c1, c2, c3, h⟩, fun h => h.up⟩)]
            · rw [if_pos (by simpa using c3)]
              rw [key false ⟨fun z => (by cases z), fun h => absurd h.m2 c3⟩]
          · rw [if_pos (by simpa using c2)]
            simp only [O.ok_bind, if_true]
            rw [key false ⟨fun z => (by cases z), fun h => absurd h.m1 c2⟩]
        · rw [if_pos (by simpa using c1)]
          rw [key false ⟨fun z => (by cases z), fun h => absurd h.lt c1⟩]
      · rw [if_pos (by simpa using hwr)]
        simp only [O.ok_bind, if_true]
        rw [decide_eq_false fun ⟨p, h⟩ => hwr (nog h)]
  · rw [if_pos (by simp; omega), decide_eq_false]
    rintro ⟨p, h⟩
    obtain ⟨w, a, b, e, -⟩ := nx_3 h
    rw [e] at h3
    exact h3 rfl
end
end Law
/-! M08d: a row judged by the program. -/
namespace Law
open PySem PySem.Spec PyProof.Rows L2 G
abbrev emb (gs : GS) : List (PySem.Str × Option Int) := gs.map fun g => (g.1, some g.2)
theorem emb_e (gs : GS) : (eT (eP D.str (eO D.int))) (emb gs) = eG gs := by
  unfold eG eT emb
  rw [List.map_map]
  rfl
theorem moorof_ok {gl : List (PySem.Str × Option Int)} {gs : GS} {rs : RSd} (e : (eT (eP D.str (eO D.int))) gl = eG gs) (Gk : GOk gs) (R : ROk gs rs) : t_moor_of gl rs = .ok (mo gs rs, gl, rs) := by
  unfold t_moor_of
  rw [e, moor_ok Gk R]
  rfl
theorem moorof_er {gl : List (PySem.Str × Option Int)} {rs : RSd} {c : Nat} {fs : List D} (h : t_Moor_init (D.obj 0 []) ((eT (eP D.str (eO D.int))) gl) ((eT (eP D.str D.str)) rs) = .er ⟨c, fs⟩) (hc : c = 1 ∨ c = 2) : t_moor_of gl rs = .ok (.non, gl, rs) := by
  unfold t_moor_of
  rw [h]
  rcases hc with rfl | rfl <;> rfl
section
variable {gs : GS} {rs : RSd}
theorem gD_of {g : PySem.Str × Int} (h : Nm g.1) (h2 : 0 ≤ g.2 ∧ g.2 ≤ 1000000000) : gD (eP D.str D.int g) = some g := by
  show (if Nm g.1 ∧ 0 ≤ g.2 ∧ g.2 ≤ 1000000000 then some (g.1, g.2) else none) = _
  rw [if_pos ⟨h, h2⟩]
theorem placeG_snoc : ∀ (gs : GS) (l : PySem.Str) (k : Int) (xs : List D), (∀ g ∈ gs, Nm g.1) → (∀ g ∈ gs, 0 ≤ g.2 ∧ g.2 ≤ 1000000000) → (gs.map (·.1)).Pairwise sLt → (∀ g, gs.head? = some g → sLt l g.1) →
    placeG l k (gs.map (eP D.str D.int) ++ xs) = placeG ((gs.getLast?.map (·.1)).getD l) (k + gs.length) xs
  | [], l, k, xs, _, _, _, _ => by simp
  | g :: gs, l, k, xs, h1, h2, h3, h4 => by
    rw [List.map_cons, List.cons_append, placeG, gD_of (h1 g (List.mem_cons_self ..)) (h2 g (List.mem_cons_self ..))]
    dsimp only
    rw [if_pos (h4 g rfl)]
    rw [List.map_cons, List.pairwise_cons] at h3
    rw [placeG_snoc gs g.1 (k + 1) xs (fun x hx => h1 x (List.mem_cons_of_mem _ hx)) (fun x hx => h2 x (List.mem_cons_of_mem _ hx)) h3.2 (fun x hx => h3.1 _ (List.mem_map_of_mem (List.mem_of_mem_head? hx)))]
    congr 1
    · cases gs with
      | nil => rfl
      | cons y ys =>
        rw [List.getLast?_cons_cons]
        obtain ⟨z, hz⟩ := lst_of (xs := y :: ys) (by simp)
        rw [hz]
        rfl
    · rw [List.length_cons]; push_cast; omega
theorem way_g {a : PySem.Str} {o : Option Int} (h : a.length ≤ 1000) : WayD (eP D.str (eO D.int) (a, o)) := ⟨⟨fun _ _ => by cases o <;> simp [eP], fun z => by cases o <;> cases z⟩, fun xs e => by
  have e2 : (D.tup [D.str a, eO D.int o]) = .tup xs := e
  injection e2 with e2
  subst e2
  refine ⟨by simp, fun x hx => ?_⟩
  simp only [List.mem_cons, List.not_mem_nil, or_false] at hx
  rcases hx with rfl | rfl
  · exact ⟨no_str _, fun s e => by cases e; exact h⟩
  · cases o with
    | none => exact ⟨⟨fun _ _ => by simp [eO], fun z => by cases z⟩, fun s e => by cases e⟩
    | some n => exact ⟨⟨fun _ _ => by simp [eO], fun z => by cases z⟩, fun s e => by cases e⟩⟩
theorem way_gs (Gk : GOk gs) : ∀ x ∈ gs.map (eP D.str D.int), WayD x := fun x hx => by
  obtain ⟨g, hg, rfl⟩ := List.mem_map.mp hx
  have := nm_len (Gk.nm g hg)
  exact way_g (a := g.1) (o := some g.2) (Nat.le_trans this (by decide))
theorem way_r {r : PySem.Str × PySem.Str} (h : r.1.length ≤ 1000) (h2 : r.2.length ≤ 1000) : WayD (eP D.str D.str r) := ⟨⟨fun _ _ => by simp [eP], fun z => by cases z⟩, fun xs e => by
  have e2 : (D.tup [D.str r.1, D.str r.2]) = .tup xs := e
  injection e2 with e2
  subst e2
  refine ⟨by simp, fun x hx => ?_⟩
  simp only [List.mem_cons, List.not_mem_nil, or_false] at hx
  rcases hx with rfl | rfl
  · exact ⟨no_str _, fun s e => by cases e; exact h⟩
  · exact ⟨no_str _, fun s e => by cases e; exact h2⟩⟩
/-- a gauge that can't be added -/
theorem bad_gauge (Gk : GOk gs) {a : PySem.Str} {o : Option Int} (ha : a.length ≤ 600) (hb : ¬ (gs.length < 12 ∧ (∀ g, gs.getLast? = some g → sLt g.1 a) ∧ Nm a ∧ ∃ n, o = some n ∧ 0 ≤ n ∧ n ≤ 1000000000)) (ties : D) :
    ∃ fs, t_Moor_init (D.obj 0 []) ((eT (eP D.str (eO D.int))) (emb gs ++ [(a, o)])) ties = .er ⟨1, fs⟩ := by
  have hl := Gk.ln
  have hz := sz
  have ee : (eT (eP D.str (eO D.int))) (emb gs ++ [(a, o)]) = .tup (gs.map (eP D.str D.int) ++ [eP D.str (eO D.int) (a, o)]) := by
    unfold eT
    rw [List.map_append]
    have := emb_e gs
    unfold eT at this
    injection this with this
    rw [this]
    rfl
  have e0 : isK .tuple (.tup (gs.map (eP D.str D.int) ++ [eP D.str (eO D.int) (a, o)])) = .ok true := rfl
  have e1 : G.opI (dLen [.tup (gs.map (eP D.str D.int) ++ [eP D.str (eO D.int) (a, o)])]) = .ok ((gs.length + 1 : Nat) : Int) := by
    have : dLen [.tup (gs.map (eP D.str D.int) ++ [eP D.str (eO D.int) (a, o)])] = some (.int (((gs.map (eP D.str D.int) ++ [eP D.str (eO D.int) (a, o)]).length : Nat) : Int)) := by
      simp [dLen]
    rw [this, List.length_append, List.length_map]
    rfl
  unfold t_Moor_init
  rw [ee, e0, e1]
  simp only [O.ok_bind, Bool.not_true, Bool.false_eq_true, if_false, decide_eq_true_eq]
  by_cases c12 : gs.length = 12
  · rw [if_pos (by omega)]
    exact ⟨_, rfl⟩
  · rw [if_neg (by omega)]
    rw [odd_gauge_D (fun x hx => by
      rcases List.mem_append.mp hx with hx | hx
      · exact way_gs Gk x hx
      · rw [List.mem_singleton.mp hx]; exact way_g (by omega))]
    simp only [O.ok_bind]
    have hp : ∃ j, placeG "" 0 (gs.map (eP D.str D.int) ++ [eP D.str (eO D.int) (a, o)]) = some j := by
      rw [placeG_snoc gs "" 0 _ Gk.nm Gk.tp Gk.up fun g hg => nm_ne (Gk.nm g (List.mem_of_mem_head? hg)), placeG]
      cases e : gD (eP D.str (eO D.int) (a, o)) with
      | none => exact ⟨_, rfl⟩
      | some g =>
        obtain ⟨e1, e2, e3, e4⟩ := gD_eq e
        have e5 : (D.tup [D.str a, eO D.int o]) = .tup [.str g.1, .int g.2] := e1
        injection e5 with e5
        injection e5 with e6 e7
        injection e6 with e6
        injection e7 with e7 _
        subst e6
        have e8 : o = some g.2 := by
          cases o with
          | none => cases e7
          | some n => injection e7 with e7; rw [e7]
        dsimp only
        rw [if_neg]
        · exact ⟨_, rfl⟩
        · intro hlt
          refine hb ⟨by omega, fun g' hg' => ?_, e2, g.2, e8, e3, e4⟩
          rw [hg'] at hlt
          exact hlt
    obtain ⟨j, hj⟩ := hp
    rw [hj]
    exact ⟨_, rfl⟩
/-! rods -/
theorem rD_of {r : PySem.Str × PySem.Str} {ns : List PySem.Str} (h : r.1 ∈ ns) (h2 : r.2 ∈ ns) (h3 : sLt r.1 r.2) : rD ns (eP D.str D.str r) = some r := by
  show (if r.1 ∈ ns ∧ r.2 ∈ ns ∧ lt PyData.str r.1 r.2 = true then some (r.1, r.2) else none) = _
  rw [if_pos ⟨h, h2, h3⟩]
theorem placeR_snoc {ns : List PySem.Str} : ∀ (rs : RSd) (l : Option (PySem.Str × PySem.Str)) (k : Int) (xs : List D), (∀ r ∈ rs, r.1 ∈ ns ∧ r.2 ∈ ns) → (∀ r ∈ rs, sLt r.1 r.2) → rs.Pairwise rLt → (∀ r, rs.head? = some r → upR l r = true) →
    placeR ns l k (rs.map (eP D.str D.str) ++ xs) = placeR ns (rs.getLast?.or l) (k + rs.length) xs
  | [], l, k, xs, _, _, _, _ => by simp
  | r :: rs, l, k, xs, h1, h2, h3, h4 => by
    have hr := h1 r (List.mem_cons_self ..)
    rw [List.map_cons, List.cons_append, placeR, rD_of hr.1 hr.2 (h2 r (List.mem_cons_self ..))]
    dsimp only
    rw [if_pos (h4 r rfl)]
    rw [List.pairwise_cons] at h3
    rw [placeR_snoc rs (some r) (k + 1) xs (fun x hx => h1 x (List.mem_cons_of_mem _ hx)) (fun x hx => h2 x (List.mem_cons_of_mem _ hx)) h3.2 (fun x hx => h3.1 _ (List.mem_of_mem_head? hx))]
    congr 1
    · cases rs with
      | nil => rfl
      | cons y ys =>
        rw [List.getLast?_cons_cons]
        obtain ⟨z, hz⟩ := lst_of (xs := y :: ys) (by simp)
        rw [hz]
        rfl
    · rw [List.length_cons]; push_cast; omega
theorem init_gs (Gk : GOk gs) (ties : D) : t_Moor_init (.obj 0 []) (eG gs) ties = ((isK .tuple ties).bind fun v10 =>
  if (!v10) = true then
  (O.er ⟨2, [(eU ())]⟩)
  else
  ((t_odd_rod ties (gs.map (·.1))).bind fun place13 =>
  (match place13 with
  | none => (((cT (cP cS cS)) ties).bind fun rods14 =>
  (flO 0 0 (.obj 0 []) ((eT (eP D.str D.int)) gs)).bind fun self15 =>
  (flO 0 1 self15 ((eT (eP D.str D.str)) rods14)).bind fun self16 =>
  O.ok self16)
  | some place17 => (O.er ⟨2, [(D.int place17)]⟩)))) := by
  have h12 := Gk.ln
  have e0 : isK .tuple (eG gs) = .ok true := rfl
  have e1 : G.opI (dLen [eG gs]) = .ok (gs.length : Int) := by rw [show dLen [eG gs] = _ from len_t gs]; rfl
  unfold t_Moor_init
  rw [e0, e1]
  simp only [O.ok_bind, Bool.not_true, Bool.false_eq_true, if_false, decide_eq_true_eq]
  rw [if_neg (by omega), odd_gauge_ok Gk]
  simp only [O.ok_bind]
  rw [show cT (cP cS cI) (eG gs) = .ok gs from cstG.cp gs]
  simp only [O.ok_bind]
  unfold lcM
  rw [grd_t (by rw [sz]; omega)]
  simp only [O.ok_bind]
  all_goals rfl
theorem bad_rod (Gk : GOk gs) (R : ROk gs rs) {a b : PySem.Str} (ha : a.length ≤ 600) (hbl : b.length ≤ 600) (hb : ¬ OkR gs rs a b) :
    ∃ fs, t_Moor_init (D.obj 0 []) (eG gs) ((eT (eP D.str D.str)) (rs ++ [(a, b)])) = .er ⟨2, fs⟩ := by
  rw [init_gs Gk, show isK .tuple ((eT (eP D.str D.str)) (rs ++ [(a, b)])) = .ok true from rfl]
  simp only [O.ok_bind, Bool.not_true, Bool.false_eq_true, if_false]
  have ee : (eT (eP D.str D.str)) (rs ++ [(a, b)]) = .tup (rs.map (eP D.str D.str) ++ [eP D.str D.str (a, b)]) := by
    unfold eT
    rw [List.map_append]
    rfl
  rw [ee, odd_rod_D (fun n hn => nm_of Gk hn) (fun x hx => by
    rcases List.mem_append.mp hx with hx | hx
    · obtain ⟨r, hr, rfl⟩ := List.mem_map.mp hx
      obtain ⟨n1, n2⟩ := rnm Gk R hr
      have := nm_len n1
      have := nm_len n2
      exact way_r (by omega) (by omega)
    · rw [List.mem_singleton.mp hx]; exact way_r (by show a.length ≤ 1000; omega) (by show b.length ≤ 1000; omega))]
  simp only [O.ok_bind]
  have hp : ∃ j, placeR (gs.map (·.1)) none 0 (rs.map (eP D.str D.str) ++ [eP D.str D.str (a, b)]) = some j := by
    rw [placeR_snoc rs none 0 _ R.nm R.lt R.up fun r hr => rfl, placeR]
    cases e : rD (gs.map (·.1)) (eP D.str D.str (a, b)) with
    | none => exact ⟨_, rfl⟩
    | some g =>
      obtain ⟨e1, e2, e3, e4⟩ := rD_eq e
      have e5 : (D.tup [D.str a, D.str b]) = .tup [.str g.1, .str g.2] := e1
      injection e5 with e5
      injection e5 with e6 e7
      injection e6 with e6
      injection e7 with e7 _
      injection e7 with e7
      dsimp only
      rw [if_neg]
      · exact ⟨_, rfl⟩
      · intro hlt
        refine hb ⟨by rw [e6, e7]; exact e4, by rw [e6]; exact e2, by rw [e7]; exact e3, fun r hr => ?_⟩
        rw [hr] at hlt
        rw [e6, e7]
        exact hlt
  obtain ⟨j, hj⟩ := hp
  rw [hj]
  exact ⟨_, rfl⟩
end
end Law
/-! M08e: both readings, row by row. -/
namespace Law
open PySem PySem.Spec PyProof.Rows L2 G
noncomputable def bP (x32 : Int × PySem.Str) (s : D × (List (PySem.Str × (Option Int))) × (List (PySem.Str × PySem.Str))) : O (D × (List (PySem.Str × (Option Int))) × (List (PySem.Str × PySem.Str))) :=
  (splO x32.2 (" " : PySem.Str)).bind fun v36 =>
  (starO v36).bind fun (word37, rest38) =>
  if ((!decide ((rest38.length : Int) = (2 : Int))) || ((!decide (word37 ∈ [(("gauge" : PySem.Str), ("rod" : PySem.Str)).1, (("gauge" : PySem.Str), ("rod" : PySem.Str)).2])) || (decide (word37 = ("gauge" : PySem.Str)) && (!decide (s.2.2 = []))))) = true then
  (O.er ⟨3, [(D.int x32.1)]⟩)
  else
  ((if decide (word37 = ("gauge" : PySem.Str)) = true then
  ((ixL rest38 (0 : Int)).bind fun v48 =>
  (ixL rest38 (1 : Int)).bind fun v49 =>
  (t_figured v49).bind fun v50 =>
  (appL s.2.1 (v48, v50)).bind fun gauges51 =>
  O.ok (gauges51, s.2.2))
  else
  ((ixL rest38 (0 : Int)).bind fun v52 =>
  (ixL rest38 (1 : Int)).bind fun v53 =>
  (appL s.2.2 (v52, v53)).bind fun rods54 =>
  O.ok (s.2.1, rods54))).bind fun (gauges46, rods47) =>
  (t_moor_of gauges46 rods47).bind fun (told55, gauges56, rods57) =>
  if (isN told55) = true then
  (O.er ⟨3, [(D.int x32.1)]⟩)
  else
  (O.ok (told55, gauges56, rods57)))
noncomputable def bL (x29 : Int × PySem.Str) (s : (List (PySem.Str × Int)) × (List (PySem.Str × PySem.Str))) : O (Stp ((List (PySem.Str × Int)) × (List (PySem.Str × PySem.Str))) (List D)) :=
  (splO x29.2 (" " : PySem.Str)).bind fun words32 =>
  (t_law_adds words32 s.1 s.2).bind fun (v33, known34, pairs35) =>
  if (!v33) = true then
  (O.ok (Stp.rt ([(D.str ((("none" : PySem.Str), x29.1).1)), (D.int ((("none" : PySem.Str), x29.1).2))])))
  else
  (((ixL words32 (0 : Int)).bind fun v46 =>
  if decide (v46 = ("gauge" : PySem.Str)) = true then
  ((ixL words32 (1 : Int)).bind fun v47 =>
  (ixL words32 (2 : Int)).bind fun v48 =>
  (intXO v48).bind fun v49 =>
  (appL known34 (v47, v49)).bind fun known50 =>
  O.ok (known50, pairs35))
  else
  ((ixL words32 (1 : Int)).bind fun v51 =>
  (ixL words32 (2 : Int)).bind fun v52 =>
  (appL pairs35 (v51, v52)).bind fun pairs53 =>
  O.ok (known34, pairs53))).bind fun (known44, pairs45) =>
  O.ok (Stp.on (known44, pairs45)))
section
variable {gs : GS} {rs : RSd} {row : PySem.Str}
theorem P_end {α : Type} {a : List (PySem.Str × Option Int)} {b : List (PySem.Str × PySem.Str)} {d : D} {k : Int} (h : t_moor_of a b = .ok (d, a, b)) :
    ((t_moor_of a b).bind fun (told55, gauges56, rods57) => if (isN told55) = true then (O.er ⟨3, [(D.int k)]⟩ : O (D × List (PySem.Str × Option Int) × List (PySem.Str × PySem.Str))) else (O.ok (told55, gauges56, rods57))) = if isN d = true then .er ⟨3, [.int k]⟩ else .ok (d, a, b) := by
  rw [h]
  rfl
theorem prog_step (Gk : GOk gs) (R : ROk gs rs) (hl : row.length ≤ 600) (hr : rs.length < 1000) (k : Int) :
    (∀ gs' rs', Nx gs rs (PySem.Txt.split row " ") gs' rs' → bP (k, row) (mo gs rs, emb gs, rs) = .ok (mo gs' rs', emb gs', rs')) ∧
    ((∀ gs' rs', ¬ Nx gs rs (PySem.Txt.split row " ") gs' rs') → bP (k, row) (mo gs rs, emb gs, rs) = .er ⟨3, [.int k]⟩) := by
  have hz := sz
  have hg := Gk.ln
  obtain ⟨hw, -⟩ := sp_len (x := row) sep_s
  have hne := sp_ne (x := row) sep_s
  unfold bP
  rw [show splO row " " = _ from spl_ok sep_s (by omega)]
  simp only [O.ok_bind]
  generalize PySem.Txt.split row " " = l at hw hne
  match l, hne with
  | w :: rest, _ =>
    rw [show starO (w :: rest) = .ok (w, rest) from rfl]
    simp only [O.ok_bind]
    by_cases h2 : rest.length = 2
    · match rest, h2 with
      | [a, b], _ =>
        have ha : a.length ≤ 600 := Nat.le_trans (hw a (by simp)) hl
        have hb : b.length ≤ 600 := Nat.le_trans (hw b (by simp)) hl
        by_cases hwg : w = "gauge"
        · subst hwg
          by_cases c1 : rs = []
          · subst c1
            rw [if_neg (by simp), if_pos (by simp), show ixL [a, b] (0 : Int) = .ok a from rfl, show ixL [a, b] (1 : Int) = .ok b from rfl]
            simp only [O.ok_bind]
            rw [fig_w hb]
            simp only [O.ok_bind]
            rw [show appL (emb gs) (a, figN b) = .ok (emb gs ++ [(a, figN b)]) from Ok.eq (Ok.app (Q := (· = _)) (by rw [List.length_map]; omega) rfl)]
            simp only [O.ok_bind]
            constructor
            · intro gs' rs' h
              obtain ⟨n, ok, rfl, rfl⟩ := nx_g h
              have e : emb (gs ++ [(a, n)]) = emb gs ++ [(a, figN b)] := by rw [ok.fg]; simp [emb]
              have hm := moorof_ok (gl := emb gs ++ [(a, figN b)]) (rs := []) (by rw [← e]; exact emb_e _) (okG_gok Gk ok) rok_0
              rw [e]
              refine (P_end (α := Unit) hm).trans ?_
              rfl
            · intro h
              have hbad := bad_gauge Gk (a := a) (o := figN b) ha (fun ⟨q1, q2, q3, n, q4, q5, q6⟩ => h (gs ++ [(a, n)]) [] (.inl ⟨a, b, n, rfl, ⟨rfl, q1, q2, q3, q4, q6⟩, rfl, rfl⟩)) ((eT (eP D.str D.str)) ([] : RSd))
              obtain ⟨fs, hbad⟩ := hbad
              refine (P_end (α := Unit) (moorof_er hbad (.inl rfl))).trans ?_
              rfl
          · have e : ((!decide ((([a, b] : List PySem.Str).length : Int) = (2 : Int))) || ((!decide (("gauge" : PySem.Str) ∈ [(("gauge" : PySem.Str), ("rod" : PySem.Str)).1, (("gauge" : PySem.Str), ("rod" : PySem.Str)).2])) || (decide (("gauge" : PySem.Str) = ("gauge" : PySem.Str)) && (!decide (rs = []))))) = true := by simp [c1]
            rw [if_pos (by simp [c1])]
            refine ⟨fun gs' rs' h => ?_, fun _ => rfl⟩
            obtain ⟨n, ok, -⟩ := nx_g h
            exact absurd ok.r0 c1
        · by_cases hwr : w = "rod"
          · subst hwr
            rw [if_neg (by rw [show decide (("rod" : PySem.Str) = "gauge") = false from by decide]; simp), if_neg (by simpa using rodne), show ixL [a, b] (0 : Int) = .ok a from rfl, show ixL [a, b] (1 : Int) = .ok b from rfl]
            simp only [O.ok_bind]
            rw [show appL rs (a, b) = .ok (rs ++ [(a, b)]) from Ok.eq (Ok.app (Q := (· = _)) (by omega) rfl)]
            simp only [O.ok_bind]
            constructor
            · intro gs' rs' h
              obtain ⟨ok, e1, e2⟩ := nx_r h
              rw [e1, e2]
              have hm := moorof_ok (gl := emb gs) (rs := rs ++ [(a, b)]) (emb_e _) Gk (okR_rok R hr ok)
              refine (P_end (α := Unit) hm).trans ?_
              rfl
            · intro h
              have hbad := bad_rod Gk R ha hb (fun ok => h gs (rs ++ [(a, b)]) (.inr ⟨a, b, rfl, ok, rfl, rfl⟩))
              obtain ⟨fs, hbad⟩ := hbad
              rw [← emb_e gs] at hbad
              refine (P_end (α := Unit) (moorof_er hbad (.inr rfl))).trans ?_
              rfl
          · rw [if_pos (by simp [hwg, hwr])]
            refine ⟨fun gs' rs' h => ?_, fun _ => rfl⟩
            obtain ⟨w', a', b', e, h⟩ := nx_3 h
            injection e with e _
            subst e
            rcases h with h | h
            · exact absurd h hwg
            · exact absurd h hwr
    · rw [if_pos (by
        have : ¬ ((rest.length : Int) = 2) := by omega
        simp [this])]
      refine ⟨fun gs' rs' h => ?_, fun _ => rfl⟩
      obtain ⟨w', a', b', e, -⟩ := nx_3 h
      injection e with _ e
      rw [e] at h2
      exact absurd rfl h2
open Classical in
theorem law_step (Gk : GOk gs) (hl : row.length ≤ 600) (hr : rs.length < 1000) (k : Int) :
    (∀ gs' rs', Nx gs rs (PySem.Txt.split row " ") gs' rs' → bL (k, row) (gs, rs) = .ok (.on (gs', rs'))) ∧
    ((∀ gs' rs', ¬ Nx gs rs (PySem.Txt.split row " ") gs' rs') → bL (k, row) (gs, rs) = .ok (.rt [.str "none", .int k])) := by
  have hz := sz
  have hg := Gk.ln
  obtain ⟨hw, -⟩ := sp_len (x := row) sep_s
  unfold bL
  rw [show splO row " " = _ from spl_ok sep_s (by omega)]
  simp only [O.ok_bind]
  rw [adds_ok Gk fun p hp => Nat.le_trans (hw p hp) hl]
  simp only [O.ok_bind]
  generalize hL : PySem.Txt.split row " " = l at hw
  constructor
  · intro gs' rs' h
    rw [decide_eq_true ⟨(gs', rs'), h⟩]
    simp only [Bool.not_true, Bool.false_eq_true, if_false]
    obtain ⟨w, a, b, rfl, hh⟩ := nx_3 h
    have hb : b.length ≤ 600 := Nat.le_trans (hw b (by simp)) hl
    rw [show ixL [w, a, b] (0 : Int) = .ok w from rfl, show ixL [w, a, b] (1 : Int) = .ok a from rfl, show ixL [w, a, b] (2 : Int) = .ok b from rfl]
    simp only [O.ok_bind]
    rcases hh with rfl | rfl
    · obtain ⟨n, ok, rfl, rfl⟩ := nx_g h
      obtain ⟨f1, f2, f3, f4⟩ := figN_some ok.fg
      rw [if_pos (by simp), int_digits hb f1 f2, ← f4]
      simp only [O.ok_bind]
      rw [show appL gs (a, n) = .ok (gs ++ [(a, n)]) from Ok.eq (Ok.app (Q := (· = _)) (by omega) rfl)]
      rfl
    · obtain ⟨ok, rfl, rfl⟩ := nx_r h
      rw [if_neg (by simpa using rodne), show appL rs (a, b) = .ok (rs ++ [(a, b)]) from Ok.eq (Ok.app (Q := (· = _)) (by omega) rfl)]
      rfl
  · intro h
    rw [decide_eq_false fun ⟨p, hp⟩ => h p.1 p.2 hp]
    rfl
end
/-! ### all rows -/
open Classical in
/-- how the rows read: the number of the first odd one, or the moor -/
noncomputable def go : Int → List PySem.Str → GS → RSd → Sum Int (GS × RSd)
  | _, [], gs, rs => .inr (gs, rs)
  | k, row :: rows, gs, rs => if h : ∃ p : GS × RSd, Nx gs rs (PySem.Txt.split row " ") p.1 p.2 then go (k + 1) rows h.choose.1 h.choose.2 else .inl k
theorem nx_ok {gs gs' : GS} {rs rs' : RSd} {l : List PySem.Str} (Gk : GOk gs) (R : ROk gs rs) (hr : rs.length < 1000) (h : Nx gs rs l gs' rs') : GOk gs' ∧ ROk gs' rs' ∧ rs'.length ≤ rs.length + 1 := by
  rcases h with ⟨a, b, n, -, ok, rfl, rfl⟩ | ⟨a, b, -, ok, rfl, rfl⟩
  · refine ⟨okG_gok Gk ok, ?_, by omega⟩
    rw [ok.r0]
    exact rok_0
  · exact ⟨Gk, okR_rok R hr ok, by simp⟩
theorem go_prog : ∀ (rows : List PySem.Str) (k : Int) (gs : GS) (rs : RSd), GOk gs → ROk gs rs → rs.length + rows.length ≤ 900 → (∀ r ∈ rows, r.length ≤ 600) →
    forN bP (enF k rows) (mo gs rs, emb gs, rs) = (match go k rows gs rs with | .inl j => .er ⟨3, [.int j]⟩ | .inr p => .ok (mo p.1 p.2, emb p.1, p.2)) ∧
    forR bL (enF k rows) (gs, rs) = .ok (match go k rows gs rs with | .inl j => .inl [.str "none", .int j] | .inr p => .inr p) ∧
    (∀ p, go k rows gs rs = .inr p → GOk p.1 ∧ ROk p.1 p.2 ∧ txL p.1 p.2 = txL gs rs ++ rows) ∧ (∀ j, go k rows gs rs = .inl j → k ≤ j ∧ j < k + rows.length)
  | [], k, gs, rs, Gk, R, _, _ => ⟨rfl, rfl, fun p e => by cases e; exact ⟨Gk, R, by simp⟩, fun j e => by cases e⟩
  | row :: rows, k, gs, rs, Gk, R, hl, hw => by
    rw [List.length_cons] at hl
    have hrow := hw row (List.mem_cons_self ..)
    obtain ⟨p1, p2⟩ := prog_step Gk R hrow (by omega) k
    obtain ⟨l1, l2⟩ := law_step (rs := rs) Gk hrow (by omega) k
    rw [enF, forN, forR]
    by_cases h : ∃ p : GS × RSd, Nx gs rs (PySem.Txt.split row " ") p.1 p.2
    · have hc := h.choose_spec
      have eg : go k (row :: rows) gs rs = go (k + 1) rows h.choose.1 h.choose.2 := by rw [go, dif_pos h]
      rw [eg]
      generalize h.choose = p at hc
      obtain ⟨Gk2, R2, hr2⟩ := nx_ok Gk R (by omega) hc
      obtain ⟨i1, i2, i3, i4⟩ := go_prog rows (k + 1) p.1 p.2 Gk2 R2 (by omega) fun r hr => hw r (List.mem_cons_of_mem _ hr)
      rw [p1 _ _ hc, l1 _ _ hc]
      refine ⟨i1, i2, fun q hq => ?_, fun j hj => ?_⟩
      · obtain ⟨g1, g2, g3⟩ := i3 q hq
        refine ⟨g1, g2, ?_⟩
        rw [g3]
        have hj := sp_join (x := row) sep_s
        rcases hc with ⟨a, b, n, e, ok, e1, e2⟩ | ⟨a, b, e, ok, e1, e2⟩
        · rw [e, join3] at hj
          rw [e1, e2, ok.r0, ← hj, ← (fig_can ok.fg).1]
          unfold txL
          rw [List.map_append, List.map_nil, List.append_nil, List.append_nil, List.append_assoc]
          congr 1
        · rw [e, join3] at hj
          rw [e1, e2, ← hj]
          unfold txL
          rw [List.map_append, ← List.append_assoc, List.append_assoc]
          congr 1
      · obtain ⟨a1, a2⟩ := i4 j hj
        rw [List.length_cons]
        push_cast
        omega
    · have eg : go k (row :: rows) gs rs = .inl k := by rw [go, dif_neg h]
      rw [eg, p2 fun g r hn => h ⟨(g, r), hn⟩, l2 fun g r hn => h ⟨(g, r), hn⟩]
      refine ⟨rfl, rfl, fun p e => by (cases e), fun j e => ?_⟩
      injection e with e
      rw [List.length_cons, ← e]
      push_cast
      omega
end Law
/-! M08f: the texts drawn; the law. -/
namespace Law
open PySem PySem.Spec PyProof.Rows L2 G
/-! ### a text read -/
noncomputable def rowsT (x : PySem.Str) : List PySem.Str := if x = "" then [] else PySem.Txt.split x "\n"
theorem rowsT_len {x : PySem.Str} (h : x.length ≤ 600) : (rowsT x).length ≤ 601 ∧ ∀ r ∈ rowsT x, r.length ≤ 600 := by
  unfold rowsT
  split
  · exact ⟨by simp, by simp⟩
  · obtain ⟨h1, h2⟩ := sp_len (x := x) sep_n
    exact ⟨by omega, fun r hr => Nat.le_trans (h1 r hr) h⟩
theorem rowsT_join (x : PySem.Str) : PySem.Txt.join "\n" (rowsT x) = x := by
  unfold rowsT
  split
  · rename_i h
    rw [h]
    rfl
  · exact sp_join sep_n
theorem rows1 {x : PySem.Str} (h : x.length ≤ 600) : ((opT (dTru (D.str x))).bind fun v3 => if v3 = true then ((splO x ("\n" : PySem.Str)).bind fun v5 => O.ok v5) else (O.ok [])) = .ok (rowsT x) := by
  have hz := sz
  have e0 : opT (dTru (D.str x)) = .ok ((x.length : Int) != 0) := by
    show opT (if x.length ≤ sizeLine then _ else _) = _
    rw [if_pos (by omega)]
    rfl
  rw [e0]
  simp only [O.ok_bind]
  unfold rowsT
  by_cases c : x = ""
  · rw [if_pos c, c]
    rfl
  · have hn : x.length ≠ 0 := fun z => c (strE.mpr (List.length_eq_zero_iff.mp (by rw [← TL.len_tl]; exact z)))
    rw [if_neg c, if_pos (by simpa using hn), show splO x "\n" = _ from spl_ok sep_n (by omega)]
    rfl
theorem rows2 {x : PySem.Str} (h : x.length ≤ 600) : (if (!decide (x = ("" : PySem.Str))) = true then ((splO x ("\n" : PySem.Str)).bind fun v3 => O.ok v3) else (O.ok [])) = .ok (rowsT x) := by
  unfold rowsT
  by_cases c : x = ""
  · rw [if_neg (by simpa using c), if_pos c]
  · rw [if_pos (by simpa using c), if_neg c, show splO x "\n" = _ from spl_ok sep_n (by omega)]
    rfl
theorem read_eq {x : PySem.Str} (h : x.length ≤ 600) : t_read_moor x = ((forN bP (enL (rowsT x)) (mo [] [], emb [], [])).bind fun s => O.ok s.1) := by
  have e0 : t_Moor_init (D.obj 0 []) (eT eD []) (eT eD []) = .ok (mo [] []) := moor_ok gok_nil rok_nil
  refine (show t_read_moor x = ((t_Moor_init (D.obj 0 []) (eT eD []) (eT eD [])).bind fun told2 => (opT (dTru (D.str x))).bind fun v3 => (if v3 = true then ((splO x ("\n" : PySem.Str)).bind fun v5 => O.ok v5) else (O.ok [])).bind fun v6 => (forN bP (enL v6) (told2, [], [])).bind fun s => O.ok s.1) from rfl).trans ?_
  rw [e0, O.ok_bind, ← O.bind_assoc, rows1 h]
  rfl
def outD : Sum (List D) (GS × RSd) → List D
  | .inl d => d
  | .inr s => [D.str "read", (eT (eP D.str D.int)) s.1, (eT (eP D.str D.str)) s.2]
theorem due_of {x : PySem.Str} (h : x.length ≤ 600) {z : Sum (List D) (GS × RSd)} (e : forR bL (enL (rowsT x)) ([], []) = .ok z) : t_law_due x = .ok (outD z) := by
  unfold t_law_due
  rw [rows2 h, O.ok_bind]
  show ((forR bL (enL (rowsT x)) ([], [])).bind _) = _
  rw [e]
  cases z <;> rfl
/-! ### written -/
section
variable {gs : GS} {rs : RSd}
theorem rprR_nm {x : PySem.Str} (h : Nm x) : Rpr (.str x) 1921 0 false := by
  have hl := nm_len h
  refine (rpr_str fun c hc => ?_).mono ?_ (Nat.le_refl _)
  · have := (h.2.2 c hc).2
    omega
  · omega
theorem rprR_g (Gk : GOk gs) : Rpr (eG gs) 60000 4 false := by
  have hl := Gk.ln
  refine (rpr_tup (xs := gs.map (eP D.str D.int)) (n := 4000) (k := 2) (b := false) ?_).mono (by rw [List.length_map]; omega) (by decide)
  intro d hd
  obtain ⟨g, hg, rfl⟩ := List.mem_map.mp hd
  refine (rpr_tup (xs := [D.str g.1, D.int g.2]) (n := 1921) (k := 0) (b := false) ?_).mono (show 2 * (1921 + 2) + 3 ≤ 4000 by decide) (by decide)
  intro z hz
  have ht := Gk.tp g hg
  simp only [List.mem_cons, List.not_mem_nil, or_false] at hz
  rcases hz with rfl | rfl
  · exact rprR_nm (Gk.nm g hg)
  · exact rpr_int' (by omega) (by omega)
theorem rprR_r (Gk : GOk gs) (R : ROk gs rs) : Rpr (eRd rs) 4500000 4 false := by
  have hl := R.ln
  refine (rpr_tup (xs := rs.map (eP D.str D.str)) (n := 4000) (k := 2) (b := false) ?_).mono (by rw [List.length_map]; omega) (by decide)
  intro d hd
  obtain ⟨r, hr, rfl⟩ := List.mem_map.mp hd
  refine (rpr_tup (xs := [D.str r.1, D.str r.2]) (n := 1921) (k := 0) (b := false) ?_).mono (show 2 * (1921 + 2) + 3 ≤ 4000 by decide) (by decide)
  intro z hz
  have hn := rnm Gk R hr
  simp only [List.mem_cons, List.not_mem_nil, or_false] at hz
  rcases hz with rfl | rfl
  · exact rprR_nm hn.1
  · exact rprR_nm hn.2
theorem rpr_none {j : Int} (h0 : 0 ≤ j) (h1 : j ≤ 1000000) : ∃ s, reprO ((eT eD) [.str "none", .int j]) = .ok s := by
  refine (rpr_tup (xs := [D.str "none", .int j]) (n := 1921) (k := 0) (b := false) ?_).ok (by rw [sz]; show 2 * (1921 + 2) + 3 ≤ 16777216; decide) (by decide)
  intro z hz
  simp only [List.mem_cons, List.not_mem_nil, or_false] at hz
  rcases hz with rfl | rfl
  · exact rprR_nm (by decide)
  · exact rpr_int' (by omega) (by omega)
theorem rpr_read (Gk : GOk gs) (R : ROk gs rs) : ∃ s, reprO ((eT eD) [.str "read", eG gs, eRd rs]) = .ok s := by
  refine (rpr_tup (xs := [D.str "read", eG gs, eRd rs]) (n := 4500000) (k := 4) (b := false) ?_).ok (by rw [sz]; show 3 * (4500000 + 2) + 3 ≤ 16777216; decide) (by decide)
  intro z hz
  simp only [List.mem_cons, List.not_mem_nil, or_false] at hz
  rcases hz with rfl | rfl | rfl
  · exact (rprR_nm (by decide)).mono (by decide) (by decide)
  · exact (rprR_g Gk).mono (by decide) (by decide)
  · exact rprR_r Gk R
end
/-- both read a text alike -/
theorem both_ok {x : PySem.Str} (h : x.length ≤ 600) : ∃ out, t_law_found x = .ok out ∧ t_law_due x = .ok out ∧ ∃ s, reprO ((eT eD) out) = .ok s := by
  obtain ⟨r1, r2⟩ := rowsT_len h
  obtain ⟨g1, g2, g3, g4⟩ := go_prog (rowsT x) 0 [] [] gok_nil rok_nil (by simp; omega) r2
  have hr := read_eq h
  rw [enL_F, g1] at hr
  rw [← enL_F] at g2
  have hd := due_of h g2
  cases e : go 0 (rowsT x) [] [] with
  | inl j =>
    rw [e] at hr hd
    dsimp only at hr hd
    have hj := g4 j e
    refine ⟨[.str "none", .int j], ?_, hd, rpr_none (by omega) (by omega)⟩
    unfold t_law_found
    rw [hr]
    rfl
  | inr p =>
    rw [e] at hr hd
    dsimp only at hr hd
    obtain ⟨Gk, R, ht⟩ := g3 p e
    refine ⟨[.str "read", eG p.1, eRd p.2], ?_, hd, rpr_read Gk R⟩
    have htx : tx p.1 p.2 = x := by
      unfold tx
      rw [ht]
      exact rowsT_join x
    have hs : noX (t_Moor_str (mo p.1 p.2)) = .ok x := by rw [str_mo Gk R, htx]; rfl
    have hr' : t_read_moor x = .ok (mo p.1 p.2) := hr
    unfold t_law_found
    rw [hr']
    show ((isC 0 (mo p.1 p.2)).bind fun v9 => _) = _
    rw [show isC 0 (mo p.1 p.2) = .ok true from rfl, show isO 0 (mo p.1 p.2) = .ok () from rfl, hs, mo_gs, mo_rs]
    simp
/-! ### texts drawn -/
theorem gcalls : ∀ s ∈ [("a" : PySem.Str), ("b" : PySem.Str), ("bb" : PySem.Str), ("c" : PySem.Str), ("d" : PySem.Str), ("gauge" : PySem.Str), ("h" : PySem.Str), ("rod" : PySem.Str), ("zz" : PySem.Str), ("zzzzzz" : PySem.Str), ("zzzzzzz" : PySem.Str), ("A" : PySem.Str)], s.length ≤ 7 := by decide
theorem rcalls : ∀ s ∈ [("a" : PySem.Str), ("b" : PySem.Str), ("bb" : PySem.Str), ("c" : PySem.Str), ("d" : PySem.Str), ("gauge" : PySem.Str), ("h" : PySem.Str), ("rod" : PySem.Str), ("zz" : PySem.Str)], s.length ≤ 7 := by decide
theorem odds : ∀ s ∈ [("" : PySem.Str), (" " : PySem.Str), ("0" : PySem.Str), ("1" : PySem.Str), ("a" : PySem.Str), ("A" : PySem.Str), ("-" : PySem.Str), ("\n" : PySem.Str), ("rod" : PySem.Str), ("  " : PySem.Str), ("2" : PySem.Str), ("." : PySem.Str), (" 1" : PySem.Str), ("\nrod a b" : PySem.Str), ("+" : PySem.Str), ("\ngauge zz 3" : PySem.Str)], s.length ≤ 20 := by decide
theorem ixZ {α : Type} {xs : List α} {i : Int} (h0 : -(xs.length : Int) ≤ i) (h1 : i < xs.length) : Ok (ixL xs i) fun v => v ∈ xs := by
  by_cases h : 0 ≤ i
  · exact (Ok.ix h h1).imp fun v hv => hv.2
  · have e : ixN xs.length i = some ((xs.length : Int) + i).toNat := by
      unfold ixN
      rw [if_neg (by omega)]
      simp
      omega
    have hlt : ((xs.length : Int) + i).toNat < xs.length := by omega
    unfold ixL atI
    rw [e, Option.bind_some, List.getElem?_eq_getElem hlt]
    exact ⟨_, rfl, List.getElem_mem _⟩
theorem strZ {n : Int} (h0 : 0 ≤ n) (h : n ≤ 1000000001) : Ok (G.opS (dStr [.int n])) fun s => s.length ≤ 10 := by
  have := str_big (v := n.toNat) (by omega)
  rw [Int.toNat_of_nonneg h0] at this
  refine ⟨_, this, ?_⟩
  show (tsI n).length ≤ 10
  rw [TL.len_tl, tsI_tl h0]
  exact TL.numL_len (by decide) (by omega)
theorem addL {x y : PySem.Str} {m n : Nat} (hx : x.length ≤ m) (hy : y.length ≤ n) (h : m + n ≤ 1000) : Ok (addS x y) fun s => s.length ≤ m + n := ⟨_, addS_eq (by omega), by show (x ++ y).length ≤ m + n; rw [strLen_append]; omega⟩
theorem gline_ok {h : List Int} (H : Hand h) {k : Int} (k0 : 0 ≤ k) (k1 : k ≤ 10) : Ok (t_law_gauge_line h k) fun p => Hand p.2 ∧ p.1.length ≤ 30 := by
  unfold t_law_gauge_line
  simp only [O.ok_bind]
  refine (draw_ok H (by decide) (by decide)).bd ?_
  rintro ⟨r, h1⟩ ⟨H1, r0, r1⟩
  refine (Ok.ix (xs := [(0 : Int), (0 : Int), (0 : Int), (0 : Int), (0 : Int), (0 : Int), (0 : Int), (1 : Int), (2 : Int), (-(1 : Int))]) r0 (by exact r1)).bd fun v hv => ?_
  have hm : 0 ≤ minI 11 (maxI 0 (k + v)) ∧ minI 11 (maxI 0 (k + v)) ≤ 11 := by
    unfold minI maxI
    split <;> split <;> omega
  refine (Ok.ix (xs := [("a" : PySem.Str), ("b" : PySem.Str), ("bb" : PySem.Str), ("c" : PySem.Str), ("d" : PySem.Str), ("gauge" : PySem.Str), ("h" : PySem.Str), ("rod" : PySem.Str), ("zz" : PySem.Str), ("zzzzzz" : PySem.Str), ("zzzzzzz" : PySem.Str), ("A" : PySem.Str)]) hm.1 (Int.lt_of_le_of_lt hm.2 (by decide))).bd fun call hc => ?_
  have hcl := gcalls call hc.2
  refine (draw_ok H1 (by decide) (by decide)).bd ?_
  rintro ⟨a, h2⟩ ⟨H2, a0, a1⟩
  refine (draw_ok H2 (by decide) (by decide)).bd ?_
  rintro ⟨b, h3⟩ ⟨H3, b0, b1⟩
  dsimp only at a0 a1 b0 b1 ⊢
  have hi : 0 ≤ intB (decide ((0 : Int) < b)) ∧ intB (decide ((0 : Int) < b)) ≤ 1 := by
    cases decide ((0 : Int) < b) <;> decide
  refine (ixZ (xs := [(0 : Int), (1 : Int), (2 : Int), (7 : Int), (12 : Int), (1000000000 : Int), ((1000000000 : Int) + (1 : Int)), (99 : Int)]) (i := a - intB (decide ((0 : Int) < b))) (by show -(8 : Int) ≤ _; omega) (by show _ < (8 : Int); omega)).bd fun n hn => ?_
  have hn2 : 0 ≤ n ∧ n ≤ 1000000001 := by
    simp only [List.mem_cons, List.not_mem_nil, or_false] at hn
    omega
  refine (strZ hn2.1 hn2.2).bd fun s hs => ?_
  refine (addL (m := 6) (n := 7) (by decide) hcl (by decide)).bd fun x hx => ?_
  refine (addL (m := 13) (n := 1) hx (by decide) (by decide)).bd fun y hy => ?_
  refine (addL (m := 14) (n := 10) hy hs (by decide)).bd fun z hz => ?_
  exact Ok.ret ⟨H3, by show z.length ≤ 30; omega⟩
theorem rline_ok {h : List Int} (H : Hand h) {k : Int} (k0 : 0 ≤ k) (k1 : k ≤ 10) : Ok (t_law_rod_line h k) fun p => Hand p.2 ∧ p.1.length ≤ 30 := by
  unfold t_law_rod_line
  simp only [O.ok_bind]
  have hm : 1 ≤ maxI 1 (minI 8 (k - 1)) ∧ maxI 1 (minI 8 (k - 1)) ≤ 8 := by
    unfold minI maxI
    split <;> split <;> omega
  refine (draw_ok H (by omega) (by omega)).bd ?_
  rintro ⟨r, h1⟩ ⟨H1, r0, r1⟩
  dsimp only at r0 r1 ⊢
  have hm2 : 1 ≤ maxI 1 (((minI 8 k) - r) - 1) ∧ maxI 1 (((minI 8 k) - r) - 1) ≤ 8 := by
    unfold minI maxI
    split <;> split <;> omega
  refine (draw_ok H1 (by omega) (by omega)).bd ?_
  rintro ⟨a, h2⟩ ⟨H2, a0, a1⟩
  dsimp only at a0 a1 ⊢
  refine (Ok.ix (xs := [("a" : PySem.Str), ("b" : PySem.Str), ("bb" : PySem.Str), ("c" : PySem.Str), ("d" : PySem.Str), ("gauge" : PySem.Str), ("h" : PySem.Str), ("rod" : PySem.Str), ("zz" : PySem.Str)]) r0 (by show _ < (9 : Int); omega)).bd fun c hc => ?_
  refine (addL (m := 4) (n := 7) (by decide) (rcalls c hc.2) (by decide)).bd fun x hx => ?_
  refine (addL (m := 11) (n := 1) hx (by decide) (by decide)).bd fun y hy => ?_
  have hm3 : 0 ≤ minI 8 ((r + 1) + a) ∧ minI 8 ((r + 1) + a) ≤ 8 := by
    unfold minI
    split <;> omega
  refine (Ok.ix (xs := [("a" : PySem.Str), ("b" : PySem.Str), ("bb" : PySem.Str), ("c" : PySem.Str), ("d" : PySem.Str), ("gauge" : PySem.Str), ("h" : PySem.Str), ("rod" : PySem.Str), ("zz" : PySem.Str)]) hm3.1 (by show _ < (9 : Int); omega)).bd fun d hd => ?_
  refine (addL (m := 12) (n := 7) hy (rcalls d hd.2) (by decide)).bd fun z hz => ?_
  exact Ok.ret ⟨H2, by show z.length ≤ 30; omega⟩
theorem bent_ok {h : List Int} (H : Hand h) {x : PySem.Str} (hx : x.length ≤ 280) : Ok (t_law_bent h x) fun p => Hand p.2 ∧ p.1.length ≤ 600 := by
  have hz := sz
  unfold t_law_bent
  simp only [O.ok_bind]
  rw [lenS_ok (by omega)]
  simp only [O.ok_bind]
  refine (draw_ok H (by omega) (by omega)).bd ?_
  rintro ⟨r, h1⟩ ⟨H1, r0, r1⟩
  refine (draw_ok H1 (by decide) (by decide)).bd ?_
  rintro ⟨a, h2⟩ ⟨H2, a0, a1⟩
  refine (Ok.ix (xs := [("" : PySem.Str), (" " : PySem.Str), ("0" : PySem.Str), ("1" : PySem.Str), ("a" : PySem.Str), ("A" : PySem.Str), ("-" : PySem.Str), ("\n" : PySem.Str), ("rod" : PySem.Str), ("  " : PySem.Str), ("2" : PySem.Str), ("." : PySem.Str), (" 1" : PySem.Str), ("\nrod a b" : PySem.Str), ("+" : PySem.Str), ("\ngauge zz 3" : PySem.Str)]) a0 (by exact a1)).bd fun c hc => ?_
  refine Ok.bd (P := fun s => s.length ≤ 280) (Ok.grd (by omega) (Nat.le_trans (cutS_length _ _ _) hx)) fun v hv => ?_
  refine (addL (m := 280) (n := 20) hv (odds c hc.2) (by decide)).bd fun y hy => ?_
  refine (draw_ok H2 (by decide) (by decide)).bd ?_
  rintro ⟨b, h3⟩ ⟨H3, b0, b1⟩
  refine Ok.bd (P := fun s => s.length ≤ 280) (Ok.grd (by omega) (Nat.le_trans (cutS_length _ _ _) hx)) fun w hw => ?_
  refine (addL (m := 300) (n := 280) hy hw (by decide)).bd fun z hz => ?_
  exact Ok.ret ⟨H3, by show z.length ≤ 600; omega⟩
theorem joinL_le : ∀ l : List (List Nat), (TL.joinL [10] l).length ≤ (l.map List.length).sum + l.length := fun l => by
  induction l with
  | nil => exact Nat.le_refl _
  | cons p r ih =>
    cases r with
    | nil => simp [TL.joinL]
    | cons q r =>
      unfold TL.joinL
      simp only [List.length_append, List.map_cons, List.sum_cons, List.length_cons, List.length_nil] at ih ⊢
      omega
theorem join_ok {l : List PySem.Str} (hl : l.length ≤ 9) (h : ∀ x ∈ l, x.length ≤ 30) : Ok (joinO "\n" l) fun s => s.length ≤ 280 := by
  have h1 := sum_len (f := fun y : PySem.Str => y.length) (n := 30) h
  refine Ok.grd (by rw [l_n]; omega) ?_
  have h3 := joinL_le (l.map TL.tl)
  rw [List.map_map, List.length_map] at h3
  have h4 : (List.map (List.length ∘ TL.tl) l).sum = (l.map (·.length)).sum := by
    first
      | rfl
      | (congr 1; exact List.map_congr_left fun x _ => (TL.len_tl x).symm)
  rw [TL.len_tl, TL.join_eq, TL.tl_join, show TL.tl ("\n" : PySem.Str) = [10] from by decide]
  omega
theorem lines_ok {h : List Int} (H : Hand h) : Ok (t_law_lines h) fun p => Hand p.2 ∧ p.1.length ≤ 600 := by
  have hz := sz
  unfold t_law_lines
  refine (draw_ok H (by decide) (by decide)).bd ?_
  rintro ⟨n, h1⟩ ⟨H1, n0, n1⟩
  dsimp only at n0 n1 ⊢
  refine (Ok.rg1 (Q := fun r => (∀ x ∈ r, 0 ≤ x ∧ x < 6) ∧ r.length ≤ 5) (by omega) (by omega) ⟨fun x hx => by have := mem_rng.mp hx; omega, by rw [rng_len]; omega⟩).bd ?_
  rintro r ⟨hr, rl⟩
  refine (Ok.forN (fun xs (s : List Int × List PySem.Str) => Hand s.1 ∧ (∀ x ∈ xs, 0 ≤ x ∧ x < 6) ∧ s.2.length + xs.length ≤ 5 ∧ ∀ y ∈ s.2, y.length ≤ 30) (Q := fun s => Hand s.1 ∧ s.2.length ≤ 5 ∧ ∀ y ∈ s.2, y.length ≤ 30) ?_ (fun s h => ⟨h.1, by have := h.2.2.1; simp at this; omega, h.2.2.2⟩) ⟨H1, hr, by simp; omega, by simp⟩).bd ?_
  · rintro x xs ⟨hd, l⟩ ⟨Hd, hx, hl, hy⟩
    have hx0 := hx x (List.mem_cons_self ..)
    simp only [List.length_cons] at hl
    refine (gline_ok Hd (by omega) (by omega)).bd ?_
    rintro ⟨s, hd2⟩ ⟨Hd2, hs⟩
    refine (Ok.app (Q := (· = l ++ [s])) (by omega) rfl).bd ?_
    rintro _ rfl
    refine Ok.ret ⟨Hd2, fun z hz => hx z (List.mem_cons_of_mem _ hz), by simp; omega, fun y hy' => ?_⟩
    rcases List.mem_append.mp hy' with q | q
    · exact hy y q
    · rw [List.mem_singleton.mp q]; exact hs
  rintro ⟨h2, l⟩ ⟨H2, hl, hy⟩
  dsimp only at H2 hl hy ⊢
  refine (draw_ok H2 (by decide) (by decide)).bd ?_
  rintro ⟨m, h3⟩ ⟨H3, m0, m1⟩
  dsimp only at m0 m1 ⊢
  have hi : 0 ≤ intB (decide ((1 : Int) < n)) ∧ intB (decide ((1 : Int) < n)) ≤ 1 := by
    cases decide ((1 : Int) < n) <;> decide
  generalize intB (decide ((1 : Int) < n)) = b at hi
  have hmb : 0 ≤ m * b ∧ m * b ≤ 3 := by
    have : b = 0 ∨ b = 1 := by omega
    rcases this with rfl | rfl <;> omega
  refine Ok.bd (P := fun v => 0 ≤ v ∧ v ≤ 3) ?_ fun v hv => ?_
  · have : mulI m b = .ok (m * b) := by
      refine Ok.eq (Ok.grd ?_ rfl)
      have : b = 0 ∨ b = 1 := by omega
      have h3 : m = 0 ∨ m = 1 ∨ m = 2 ∨ m = 3 := by omega
      rcases this with rfl | rfl <;> rcases h3 with rfl | rfl | rfl | rfl <;> decide
    exact ⟨_, this, hmb⟩
  refine (Ok.rg1 (Q := fun r => r.length ≤ 3) (by omega) (by omega) (by rw [rng_len]; omega)).bd ?_
  intro r2 rl2
  refine (Ok.forN (fun xs (s : List Int × List PySem.Str) => Hand s.1 ∧ s.2.length + xs.length ≤ 8 ∧ ∀ y ∈ s.2, y.length ≤ 30) (Q := fun s => Hand s.1 ∧ s.2.length ≤ 8 ∧ ∀ y ∈ s.2, y.length ≤ 30) ?_ (fun s h => ⟨h.1, by have := h.2.1; simp at this; omega, h.2.2⟩) ⟨H3, by simp only; omega, hy⟩).bd ?_
  · rintro x xs ⟨hd, l⟩ ⟨Hd, hl, hy⟩
    simp only [List.length_cons] at hl
    refine (rline_ok Hd n0 (by omega)).bd ?_
    rintro ⟨s, hd2⟩ ⟨Hd2, hs⟩
    refine (Ok.app (Q := (· = l ++ [s])) (by omega) rfl).bd ?_
    rintro _ rfl
    refine Ok.ret ⟨Hd2, by simp; omega, fun y hy' => ?_⟩
    rcases List.mem_append.mp hy' with q | q
    · exact hy y q
    · rw [List.mem_singleton.mp q]; exact hs
  rintro ⟨h4, l4⟩ ⟨H4, hl4, hy4⟩
  dsimp only at H4 hl4 hy4 ⊢
  refine (join_ok (by omega) hy4).bd fun s hs => ?_
  refine (draw_ok H4 (by decide) (by decide)).bd ?_
  rintro ⟨c, h5⟩ ⟨H5, -, -⟩
  refine Ok.bd (P := fun p => Hand p.2 ∧ p.1.length ≤ 600) (Ok.ite (fun _ => ?_) fun _ => Ok.ret ⟨H5, by simp only; omega⟩) fun p hp => Ok.ret hp
  refine (bent_ok H5 hs).bd ?_
  rintro ⟨s2, h6⟩ hh
  exact Ok.ret hh
theorem law_ok {ns : List Int} (h : ns.length ≤ 63) : t_law ns = .ok true := by
  have hz := sz
  refine Ok.eq ?_
  unfold t_law
  have hm : 2 ≤ maxI 2 (minI ns.length 40) ∧ maxI 2 (minI ns.length 40) ≤ 40 := by
    unfold maxI minI
    split <;> split <;> omega
  refine (Ok.rg1 (Q := fun r => (∀ x ∈ r, 0 ≤ x ∧ x < 40) ∧ r.length ≤ 40) (by omega) (by omega) ⟨fun x hx => by have := mem_rng.mp hx; omega, by rw [rng_len]; omega⟩).bd ?_
  rintro r ⟨hr, hlen⟩
  refine (Ok.forR (fun xs (_ : Unit) => ∀ x ∈ xs, 0 ≤ x ∧ x < 40) (Q := fun z => z = .inr ()) ?_ (fun _ _ => rfl) hr).bd ?_
  · intro x xs _ hx
    have hx0 := hx x (List.mem_cons_self ..)
    refine (cell_ok ns (by omega) (by omega)).bd fun v _ => ?_
    refine (hand_ok v).bd fun h1 H1 => ?_
    refine (lines_ok H1).bd ?_
    rintro ⟨s, h2⟩ ⟨H2, hs⟩
    dsimp only at hs ⊢
    obtain ⟨out, e1, e2, t, e3⟩ := both_ok hs
    rw [e1, e2]
    simp only [O.ok_bind]
    rw [e3]
    simp only [O.ok_bind]
    rw [if_neg (by simp)]
    exact Ok.ret fun z hz => hx z (List.mem_cons_of_mem _ hz)
  rintro _ rfl
  exact Ok.ret rfl
theorem maths (ns : List Int) (h : ns.length ≤ 63) : ∃ o, MF_f_law [.scr ns] = .ok (.bl true) o := by
  have := q_law ns
  rw [law_ok h] at this
  unfold FSm at this
  exact ⟨_, this⟩
end Law
namespace Law
open PySem PySem.Spec PyProof.Rows L2 G
abbrev R : PySem.W.OpenRow := PySem.W.OpenLaw.row PySem.Challenge.rw_gaugemoor_k08_whole_any_text_of_a_moor
def loose0 : List PySem.Str := ["_wall", "MoorError", "NoGauges", "NoRods", "NoName", "NoText", "GREAT", "MOST_GAUGES", "is_whole", "is_number", "is_name", "is_gauge"]
def loose1 : List PySem.Str := ["is_rod", "odd_gauge", "odd_rod", "Moor", "FIGURES", "figured", "moor_of", "read_moor", "_law_cell", "_law_hand", "_law_draw", "_law_gauge_line"]
def loose2 : List PySem.Str := ["_law_rod_line", "_law_bent", "_law_lines", "_law_is_call", "_law_is_high", "_law_adds", "_law_due", "_law_found"]
abbrev loose : List PySem.Str := loose0 ++ loose1 ++ loose2
abbrev hk : PySem.W.Hook := hookG 5 fa fn exB
def ob (s : PySem.W.SharedT) : AlG := obsG 5 fa fn exB (HandSHeadRun.getT s)
theorem ob_eq (s : PySem.W.SharedT) : ob s = hk.obs s.abs := obsG_eq (HandSHeadRun.getT_eq s)
theorem run (w : World) : HandSHeadRun.RunEq R (PySem.W.view R.prog [36]) hk ob 9000 loose w := by
  intro os
  kernel_rfl
end Law
namespace Law
open PySem PySem.Spec PyProof.Rows L2 G
theorem facts {P : Program} {w : World} {K : Frag} {h : Heap} {mg : PySem.Str → Option Value} {f : Addr} (X : K.In h) (N : h.Ns mainGlobals mg) (hfa : mg ("law" : PySem.Str) = some (.ref f)) (c : He.SaysD fa fn K) (ex : exB K = true) :
    ∃ fd : FuncData, (∀ (s : Shared) (v : Value), BindsTo s fd ⟨[v], []⟩ [("_law_script", v)]) ∧ ∀ base : Heap, FnG P w K mg base (CXn false P w) 10 f fd ["_law_script"] (SpG K (ct K) [.fz] false MF_f_law) := by
  have y : Hy K mg h := ⟨X, N, c, ex⟩
  obtain ⟨fd, D, _, _, m, r⟩ := w_f_law (P := P) (w := w) y
  have e := hfa.symm.trans m
  have e2 : f = He.fAd K ("law", none) := by
    injection e with e
    injection e
  subst e2
  have b := FunD.bindsA (ps := ["_law_script"]) D fun _ _ _ _ _ _ us hl => match us, hl with | [_], _ => rfl
  exact ⟨fd, fun s v => b s [v] rfl, r⟩
end Law
open PySem PySem.W PySem.Calls PyProof.Rows
theorem PySem.Challenge.cw_gaugemoor_k08_whole_any_text_of_a_moor_holds : PySem.Challenge.rw_gaugemoor_k08_whole_any_text_of_a_moor.Holds := by
  w_on; o_law
  refine HandSHeadRun.head_any (r := OpenLaw.row PySem.Challenge.rw_gaugemoor_k08_whole_any_text_of_a_moor) (q := view (OpenLaw.row PySem.Challenge.rw_gaugemoor_k08_whole_any_text_of_a_moor).prog [36]) (H := Law.hk) (ob := Law.ob) (M := 9000) (loose := Law.loose) (d := HandSHeadRun.topDef (OpenLaw.row PySem.Challenge.rw_gaugemoor_k08_whole_any_text_of_a_moor).prog 36) (kwd := []) Law.ob_eq
    (by kernel_rfl) (fun s => by kernel_rfl) Law.run (by kernel_rfl) (by kernel_rfl) (by kernel_rfl) (by rfl) (by first | assumption | decide +kernel) (by decide +kernel) ⟨rfl, rfl, rfl, rfl, rfl, by decide +kernel⟩ ?hw ?hc
  case hw => w_witness2
  case hc =>
    refine G.walk_ofG (l := PySem.Challenge.rw_gaugemoor_k08_whole_any_text_of_a_moor) (n := 63) (k := 10) (x := "_law_script") rfl (by decide) (by kernel_rfl) ⟨rfl, by decide, by decide⟩ ?F
    intro w mg fa h Y N hmg0
    obtain ⟨K, KX, c, ex⟩ := Y
    have hmg : mg ("law" : PySem.Str) = some (.ref fa) := by
      have e : (HandSHeadRun.topDef (OpenLaw.row PySem.Challenge.rw_gaugemoor_k08_whole_any_text_of_a_moor).prog 36).name = ("law" : PySem.Str) := by kernel_rfl
      rw [← e]
      exact hmg0
    obtain ⟨fd, hb, hF⟩ := Law.facts (P := (PySem.Challenge.rw_gaugemoor_k08_whole_any_text_of_a_moor).prog) (w := w) KX N hmg c ex
    exact ⟨K, Law.ct K, fd, Law.MF_f_law, KX, hb, Law.maths, fun base _ _ => hF base⟩
