import PyProof.Rows.All
import Wide.All
import OpenK.AllK
import Wide.FinOn
import HandS.ForMost
import HandS.Exc
import HandS.TryOnly
import HandS.TryMany
import HandS.ExcOwn
import HandS.WordsExc
import HandS.TupAny
import HandS.TupLe
import HandS.IsInst
import HandS.Zip
import HandS.Style
import HandS.Deep
import HandS.Flow
import HandS.FStr
import HandS.Defaults
import HandS.HeadEnd
import KE.DataEq
import KE.DataCmp
import KE.DataAny
import KE.DataFind
import KE.DataMinMax
import KE.SortData
import PyProof.ReprRoads
import KE.GoesEnum
import KE.GoesZip
import KE.GoesMore
import HandS.Comp
import HandS.Conv
import HandS.Text
import PyProof.RowDictHeap
import KE.KCallOwn
import HandS.Dict
import HandS.Ends
import HandS.Head0
import HandS.Head1
import HandS.Head2
import HandS.HeadHook1
import HandS.HeadHook2
import PySem.Challenge.RW_gaugemoor_k09_what_is_a_stand
set_option Elab.async false
set_option linter.all false
set_option maxRecDepth 100000
set_option maxHeartbeats 0
/-! G0: data by value, how they lie in the abstract heap, the state of a body, what a reading by a plain program is. -/
namespace G
open PySem PySem.Spec PyProof.Rows L2
/-! ### data by value -/
inductive D where
  | non | bl (b : Bool) | int (i : Int) | str (x : Str)
  | tup (xs : List D) | lst (xs : List D) | scr (ns : List Int) | dct (ks vs : List D)
  | obj (c : Nat) (fs : List D)
/-- an exception: the number of its class, its fields -/
structure Ex where
  c : Nat
  fs : List D
/-- the classes by number: where the class stands, its attributes in order -/
abbrev Ct := Nat → Addr × List Str
abbrev Frag := PySem.W.Frag
def kD : Key → D
  | .inl i => .int i
  | .inr x => .str x
mutual
/-- the datum lies at the value -/
def Rp (K : Frag) (ct : Ct) (F : Hp) : D → V → Prop
  | .non, v => v = .non
  | .bl b, v => v = .bl b
  | .int i, v => v = .int i
  | .str x, v => v = .str x
  | .tup xs, v => ∃ a vs, v = .ref a ∧ SqT K F a vs ∧ RpL K ct F xs vs
  | .lst xs, v => ∃ a vs, v = .ref a ∧ F a = some (.lst vs) ∧ RpL K ct F xs vs
  | .scr ns, v => ∃ a, v = .ref a ∧ SqL K F a (ns.map V.int)
  | .dct ks ws, v => ∃ a vs, v = .ref a ∧ RpL K ct F ws vs ∧ ks.length = vs.length ∧
      ((∃ kk : List Key, ks = kk.map kD ∧ F a = some (.dK (kk.zip vs))) ∨ (∃ kk : List (List Key), ks = kk.map (fun l => D.tup (l.map kD)) ∧ F a = some (.dT (kk.zip vs))))
  | .obj c fs, v => ∃ a dx vs, v = .ref a ∧ F a = some (.ins (ct c).1 dx ((ct c).2.zip vs)) ∧ vs.length ≤ (ct c).2.length ∧ RpL K ct F fs vs
def RpL (K : Frag) (ct : Ct) (F : Hp) : List D → List V → Prop
  | [], vs => vs = []
  | d :: ds, vs => ∃ v r, vs = v :: r ∧ Rp K ct F d v ∧ RpL K ct F ds r
end
section
variable {K : Frag} {ct : Ct} {F F' : Hp}
theorem same_rd {H H' : Hp} {a : Addr} {u : HO} (e : Same H H') (h : Rd H a u) : Rd H' a u := by
  rcases h with h | ⟨o, h⟩
  · exact .inl (e _ _ h)
  · exact .inr ⟨o, e _ _ h⟩
theorem same_l {H H' : Hp} {a : Addr} {xs : List V} (e : Same H H') (h : SqL K H a xs) : SqL K H' a xs := h.elim (fun z => .inl (same_rd e z)) .inr
theorem same_t {H H' : Hp} {a : Addr} {xs : List V} (e : Same H H') (h : SqT K H a xs) : SqT K H' a xs := h.elim (fun z => .inl (same_rd e z)) .inr
mutual
theorem Rp.mono (e : Same F F') : ∀ {d : D} {v : V}, Rp K ct F d v → Rp K ct F' d v
  | .non, _, h | .bl _, _, h | .int _, _, h | .str _, _, h => by simpa only [Rp] using h
  | .tup xs, v, h => by
    simp only [Rp] at h ⊢
    obtain ⟨a, vs, rfl, h1, h2⟩ := h
    exact ⟨a, vs, rfl, same_t e h1, RpL.mono e h2⟩
  | .lst xs, v, h => by
    simp only [Rp] at h ⊢
    obtain ⟨a, vs, rfl, h1, h2⟩ := h
    exact ⟨a, vs, rfl, e _ _ h1, RpL.mono e h2⟩
  | .scr ns, v, h => by
    simp only [Rp] at h ⊢
    obtain ⟨a, rfl, h1⟩ := h
    exact ⟨a, rfl, same_l e h1⟩
  | .dct ks ws, v, h => by
    simp only [Rp] at h ⊢
    obtain ⟨a, vs, rfl, h1, h2, h3⟩ := h
    refine ⟨a, vs, rfl, RpL.mono e h1, h2, ?_⟩
    rcases h3 with ⟨kk, e1, e2⟩ | ⟨kk, e1, e2⟩
    · exact .inl ⟨kk, e1, e _ _ e2⟩
    · exact .inr ⟨kk, e1, e _ _ e2⟩
  | .obj c fs, v, h => by
    simp only [Rp] at h ⊢
    obtain ⟨a, dx, vs, rfl, h1, h2, h3⟩ := h
    exact ⟨a, dx, vs, rfl, e _ _ h1, h2, RpL.mono e h3⟩
theorem RpL.mono (e : Same F F') : ∀ {ds : List D} {vs : List V}, RpL K ct F ds vs → RpL K ct F' ds vs
  | [], _, h => by simpa only [RpL] using h
  | d :: ds, vs, h => by
    simp only [RpL] at h ⊢
    obtain ⟨v, r, rfl, h1, h2⟩ := h
    exact ⟨v, r, rfl, Rp.mono e h1, RpL.mono e h2⟩
end
theorem rp_non {v : V} : Rp K ct F .non v ↔ v = .non := by simp only [Rp]
theorem rp_bl {b : Bool} {v : V} : Rp K ct F (.bl b) v ↔ v = .bl b := by simp only [Rp]
theorem rp_int {i : Int} {v : V} : Rp K ct F (.int i) v ↔ v = .int i := by simp only [Rp]
theorem rp_str {x : Str} {v : V} : Rp K ct F (.str x) v ↔ v = .str x := by simp only [Rp]
theorem rp_tup {xs : List D} {v : V} : Rp K ct F (.tup xs) v ↔ ∃ a vs, v = .ref a ∧ SqT K F a vs ∧ RpL K ct F xs vs := by simp only [Rp]
theorem rp_lst {xs : List D} {v : V} : Rp K ct F (.lst xs) v ↔ ∃ a vs, v = .ref a ∧ F a = some (.lst vs) ∧ RpL K ct F xs vs := by simp only [Rp]
theorem rp_scr {ns : List Int} {v : V} : Rp K ct F (.scr ns) v ↔ ∃ a, v = .ref a ∧ SqL K F a (ns.map V.int) := by simp only [Rp]
theorem rp_obj {c : Nat} {fs : List D} {v : V} : Rp K ct F (.obj c fs) v ↔ ∃ a dx vs, v = .ref a ∧ F a = some (.ins (ct c).1 dx ((ct c).2.zip vs)) ∧ vs.length ≤ (ct c).2.length ∧ RpL K ct F fs vs := by simp only [Rp]
theorem rpl_nil {vs : List V} : RpL K ct F [] vs ↔ vs = [] := by simp only [RpL]
theorem rpl_cons {d : D} {ds : List D} {vs : List V} : RpL K ct F (d :: ds) vs ↔ ∃ v r, vs = v :: r ∧ Rp K ct F d v ∧ RpL K ct F ds r := by simp only [RpL]
theorem RpL.length : ∀ {ds : List D} {vs : List V}, RpL K ct F ds vs → ds.length = vs.length
  | [], vs, h => by rw [rpl_nil] at h; subst h; rfl
  | d :: ds, vs, h => by
    rw [rpl_cons] at h
    obtain ⟨v, r, rfl, _, h2⟩ := h
    simp [RpL.length h2]
theorem RpL.get : ∀ {ds : List D} {vs : List V} {i : Nat} {d : D}, RpL K ct F ds vs → ds[i]? = some d → ∃ v, vs[i]? = some v ∧ Rp K ct F d v
  | [], vs, i, d, h, e => by simp at e
  | x :: ds, vs, 0, d, h, e => by
    rw [rpl_cons] at h
    obtain ⟨v, r, rfl, h1, h2⟩ := h
    simp at e; subst e
    exact ⟨v, rfl, h1⟩
  | x :: ds, vs, i + 1, d, h, e => by
    rw [rpl_cons] at h
    obtain ⟨v, r, rfl, h1, h2⟩ := h
    obtain ⟨w, e1, e2⟩ := RpL.get (i := i) h2 (by simpa using e)
    exact ⟨w, by simpa using e1, e2⟩
theorem RpL.getV {ds : List D} {vs : List V} {i : Nat} {v : V} (h : RpL K ct F ds vs) (e : vs[i]? = some v) : ∃ d, ds[i]? = some d ∧ Rp K ct F d v := by
  have hl := h.length
  have hi : i < vs.length := (List.getElem?_eq_some_iff.mp e).1
  have e1 : ds[i]? = some ds[i] := List.getElem?_eq_getElem (by omega)
  obtain ⟨w, e2, r⟩ := h.get e1
  rw [e] at e2; cases e2
  exact ⟨_, e1, r⟩
theorem RpL.append : ∀ {ds es : List D} {vs ws : List V}, RpL K ct F ds vs → RpL K ct F es ws → RpL K ct F (ds ++ es) (vs ++ ws)
  | [], es, vs, ws, h, h' => by rw [rpl_nil] at h; subst h; exact h'
  | d :: ds, es, vs, ws, h, h' => by
    rw [rpl_cons] at h
    obtain ⟨v, r, rfl, h1, h2⟩ := h
    exact rpl_cons.mpr ⟨v, r ++ ws, rfl, h1, h2.append h'⟩
theorem RpL.one {d : D} {v : V} (h : Rp K ct F d v) : RpL K ct F [d] [v] := rpl_cons.mpr ⟨v, [], rfl, h, rpl_nil.mpr rfl⟩
theorem RpL.two {d e : D} {v w : V} (h : Rp K ct F d v) (h' : Rp K ct F e w) : RpL K ct F [d, e] [v, w] := rpl_cons.mpr ⟨v, [w], rfl, h, .one h'⟩
theorem RpL.of_all : ∀ {ds : List D} {vs : List V}, ds.length = vs.length → (∀ (i : Nat) d v, ds[i]? = some d → vs[i]? = some v → Rp K ct F d v) → RpL K ct F ds vs
  | [], [], _, _ => rpl_nil.mpr rfl
  | [], _ :: _, h, _ => by simp at h
  | _ :: _, [], h, _ => by simp at h
  | d :: ds, v :: vs, h, q => rpl_cons.mpr ⟨v, vs, rfl, q 0 d v rfl rfl, RpL.of_all (by simpa using h) fun i d' v' a b => q (i + 1) d' v' (by simpa using a) (by simpa using b)⟩
theorem RpL.take {ds : List D} {vs : List V} (h : RpL K ct F ds vs) (n : Nat) : RpL K ct F (ds.take n) (vs.take n) := by
  refine RpL.of_all (by simp [h.length]) fun i d v a b => ?_
  rw [List.getElem?_take] at a b
  split at a
  · obtain ⟨w, e1, e2⟩ := h.get a
    simp_all
  · cases a
theorem RpL.drop {ds : List D} {vs : List V} (h : RpL K ct F ds vs) (n : Nat) : RpL K ct F (ds.drop n) (vs.drop n) := by
  refine RpL.of_all (by simp [h.length]) fun i d v a b => ?_
  rw [List.getElem?_drop] at a b
  obtain ⟨w, e1, e2⟩ := h.get a
  simp_all
theorem RpL.set {ds : List D} {vs : List V} {d : D} {v : V} (h : RpL K ct F ds vs) (r : Rp K ct F d v) (n : Nat) : RpL K ct F (ds.set n d) (vs.set n v) := by
  refine RpL.of_all (by simp [h.length]) fun i d' v' a b => ?_
  by_cases e : n = i
  · subst e
    have h1 : n < ds.length := by have := (List.getElem?_eq_some_iff.mp a).1; simpa using this
    have h2 : n < vs.length := by rw [← h.length]; exact h1
    rw [List.getElem?_set_self h1] at a
    rw [List.getElem?_set_self h2] at b
    cases a; cases b; exact r
  · rw [List.getElem?_set_ne e] at a b
    obtain ⟨w, e1, e2⟩ := h.get a
    simp_all
theorem RpL.reverse {ds : List D} {vs : List V} (h : RpL K ct F ds vs) : RpL K ct F ds.reverse vs.reverse := by
  refine RpL.of_all (by simp [h.length]) fun i d v a b => ?_
  have hi : i < ds.length := by have := (List.getElem?_eq_some_iff.mp a).1; simpa using this
  have hl := h.length
  rw [List.getElem?_reverse hi] at a
  rw [List.getElem?_reverse (by omega)] at b
  obtain ⟨w, e1, e2⟩ := h.get a
  rw [hl] at e1
  simp_all
theorem rpl_ints : ∀ {ns : List Int}, RpL K ct F (ns.map D.int) (ns.map V.int)
  | [] => rpl_nil.mpr rfl
  | n :: ns => rpl_cons.mpr ⟨_, _, rfl, rp_int.mpr rfl, rpl_ints⟩
end
/-! ### plain programs -/
abbrev Env := List (Option D)
inductive Rs (α : Type) where
  | ok (a : α) (ρ : Env)
  | er (x : Ex) (ρ : Env)
  | no
abbrev M (α : Type) := Env → Rs α
def M.ret {α : Type} (a : α) : M α := fun ρ => .ok a ρ
def M.bind {α β : Type} (m : M α) (f : α → M β) : M β := fun ρ => match m ρ with
  | .ok a ρ' => f a ρ'
  | .er x ρ' => .er x ρ'
  | .no => .no
def M.opt {α : Type} (o : Option α) : M α := fun ρ => match o with
  | some a => .ok a ρ
  | none => .no
/-! ### the heap's growth -/
/-- frozen things stay, new frozen ones are new, all stays but what is owned -/
structure Ext (own : Addr → Prop) (F H F' H' : Hp) : Prop where
  f : Same F F'
  g : ∀ b, F' b ≠ none → F b ≠ none ∨ H b = none
  h : ∀ b o, H b = some o → ¬ own b → H' b = some o
  n : ∀ b, H b ≠ none → H' b ≠ none
theorem Ext.refl {own : Addr → Prop} {F H : Hp} : Ext own F H F H := ⟨Same.refl _, fun _ h => .inl h, fun _ _ h _ => h, fun _ h => h⟩
theorem Ext.trans {own : Addr → Prop} {F H F1 H1 F2 H2 : Hp} (a : Ext own F H F1 H1) (b : Ext own F1 H1 F2 H2) : Ext own F H F2 H2 where
  f := a.f.trans b.f
  g := fun c hc => by
    rcases b.g c hc with q | q
    · exact a.g c q
    · right
      cases e : H c with
      | none => rfl
      | some o => exact absurd q (a.n c (by rw [e]; simp))
  h := fun c o e hc => b.h c o (a.h c o e hc) hc
  n := fun c hc => b.n c (a.n c hc)
theorem Ext.sub {own own' : Addr → Prop} {F H F' H' : Hp} (a : Ext own F H F' H') (h : ∀ b, own b → own' b ∨ H b = none) : Ext own' F H F' H' :=
  ⟨a.f, a.g, fun b o e hb => a.h b o e fun hm => (h b hm).elim hb fun z => (by rw [z] at e; cases e), a.n⟩
/-- behind a start at F0 H0: what is owned is handed in or new -/
theorem Ext.then {own io : Addr → Prop} {F0 H0 F H F' H' : Hp} (a : Ext io F0 H0 F H) (b : Ext own F H F' H') (h : ∀ c, own c → io c ∨ H0 c = none) : Ext io F0 H0 F' H' where
  f := a.f.trans b.f
  g := fun c hc => by
    rcases b.g c hc with q | q
    · exact a.g c q
    · right
      cases e : H0 c with
      | none => rfl
      | some o => exact absurd q (a.n c (by rw [e]; simp))
  h := fun c o e hc => b.h c o (a.h c o e hc) fun z => (h c z).elim hc fun q => by rw [q] at e; cases e
  n := fun c hc => b.n c (a.n c hc)
/-- a new object, frozen | not frozen -/
theorem Ext.newF {own : Addr → Prop} {F H : Hp} {p : Addr} {o : HO} (hs : Same F H) (hp : H p = none) : Ext own F H (upd F p o) (upd H p o) := by
  have fp : F p = none := hs.free hp
  refine ⟨fun b x e => ?_, fun b hb => ?_, fun b x e _ => ?_, fun b hb => ?_⟩
  · rw [upd_ne (ne_of_none e fp)]; exact e
  · by_cases z : b = p
    · subst z; exact .inr hp
    · rw [upd_ne z] at hb; exact .inl hb
  · rw [upd_ne (ne_of_none e hp)]; exact e
  · by_cases z : b = p
    · subst z; rw [upd_same]; simp
    · rw [upd_ne z]; exact hb
theorem Ext.newH {own : Addr → Prop} {F H : Hp} {p : Addr} {o : HO} (hp : H p = none) : Ext own F H F (upd H p o) := by
  refine ⟨Same.refl _, fun b hb => .inl hb, fun b x e _ => ?_, fun b hb => ?_⟩
  · rw [upd_ne (ne_of_none e hp)]; exact e
  · by_cases z : b = p
    · subst z; rw [upd_same]; simp
    · rw [upd_ne z]; exact hb
/-- an object of one's own is written -/
theorem Ext.wr {own : Addr → Prop} {F H : Hp} {p : Addr} {o : HO} (hp : own p) : Ext own F H F (upd H p o) := by
  refine ⟨Same.refl _, fun b hb => .inl hb, fun b x e hb => ?_, fun b hb => ?_⟩
  · rw [upd_ne (fun z => hb (by rw [z]; exact hp))]; exact e
  · by_cases z : b = p
    · subst z; rw [upd_same]; simp
    · rw [upd_ne z]; exact hb
/-- what stands unfrozen is frozen -/
theorem Ext.frz {own : Addr → Prop} {F0 H0 F H : Hp} {p : Addr} {o : HO} (a : Ext own F0 H0 F H) (hp : H0 p = none) (hf : F p = none) : Ext own F0 H0 (upd F p o) H where
  f := fun b x e => by
    have := a.f b x e
    rw [upd_ne (ne_of_none this hf)]; exact this
  g := fun b hb => by
    by_cases z : b = p
    · subst z; exact .inr hp
    · rw [upd_ne z] at hb; exact a.g b hb
  h := a.h
  n := a.n
theorem same_new {F H : Hp} {p : Addr} {o : HO} (hs : Same F H) (hp : H p = none) : Same (upd F p o) (upd H p o) := fun b x e => by
  by_cases z : b = p
  · subst z; rw [upd_same] at e ⊢; exact e
  · rw [upd_ne z] at e ⊢; exact hs b x e
theorem same_updF {F : Hp} {p : Addr} {o : HO} (hp : F p = none) : Same F (upd F p o) := fun b x e => by rw [upd_ne (ne_of_none e hp)]; exact e
theorem same_updH {F H : Hp} {p : Addr} {o : HO} (hs : Same F H) (hp : F p = none) : Same F (upd H p o) := fun b x e => by
  rw [upd_ne (ne_of_none e hp)]; exact hs b x e
theorem same_frz {F H : Hp} {p : Addr} {o : HO} (hs : Same F H) (hp : H p = some o) : Same (upd F p o) H := fun b x e => by
  by_cases z : b = p
  · subst z; rw [upd_same] at e; cases e; exact hp
  · rw [upd_ne z] at e; exact hs b x e
/-! ### the state of a body -/
/-- a slot: frozen data; an object of the body's own; one that was handed in to be changed -/
inductive Kd where
  | fz | ow | io
  deriving DecidableEq
/-- what is fixed through a body: the layer's K, the classes, the entry, the objects handed in to be changed (slot, address) -/
structure Fx where
  K : Frag
  ct : Ct
  F0 : Hp
  H0 : Hp
  ios : List (Nat × Addr)
def Fx.io (C : Fx) (a : Addr) : Prop := ∃ i, (i, a) ∈ C.ios
/-- an object that is one's own: a list, a dict -/
inductive OwO (K : Frag) (ct : Ct) (F : Hp) : D → HO → Prop
  | lst {ds : List D} {vs : List V} : RpL K ct F ds vs → OwO K ct F (.lst ds) (.lst vs)
  | dK {kk : List Key} {ws : List D} {vs : List V} : RpL K ct F ws vs → kk.length = vs.length → OwO K ct F (.dct (kk.map kD) ws) (.dK (kk.zip vs))
  | dT {kk : List (List Key)} {ws : List D} {vs : List V} : RpL K ct F ws vs → kk.length = vs.length → OwO K ct F (.dct (kk.map (fun l => D.tup (l.map kD))) ws) (.dT (kk.zip vs))
  | ins {c : Nat} {dx : Addr} {fs : List D} {vs : List V} : RpL K ct F fs vs → vs.length ≤ (ct c).2.length → OwO K ct F (.obj c fs) (.ins (ct c).1 dx ((ct c).2.zip vs))
theorem OwO.mono {K : Frag} {ct : Ct} {F F' : Hp} {d : D} {o : HO} (e : Same F F') (h : OwO K ct F d o) : OwO K ct F' d o := by
  cases h with
  | lst h => exact .lst (h.mono e)
  | dK h l => exact .dK (h.mono e) l
  | dT h l => exact .dT (h.mono e) l
  | ins h l => exact .ins (h.mono e) l
/-- one's own object, frozen -/
theorem OwO.frz {K : Frag} {ct : Ct} {F : Hp} {d : D} {o : HO} {a : Addr} (h : OwO K ct F d o) (ha : F a = none) : Rp K ct (upd F a o) d (.ref a) := by
  have e : Same F (upd F a o) := same_updF ha
  cases h with
  | lst h => exact rp_lst.mpr ⟨a, _, rfl, upd_same, h.mono e⟩
  | dK h l => simp only [Rp]; exact ⟨a, _, rfl, h.mono e, by simpa using l, .inl ⟨_, rfl, upd_same⟩⟩
  | dT h l => simp only [Rp]; exact ⟨a, _, rfl, h.mono e, by simpa using l, .inr ⟨_, rfl, upd_same⟩⟩
  | ins h l => exact rp_obj.mpr ⟨a, _, _, rfl, upd_same, l, h.mono e⟩
/-- what may be read: the top may be somebody's own, all within is frozen -/
def Rv (K : Frag) (ct : Ct) (F H : Hp) (d : D) (v : V) : Prop := match d with
  | .lst ds => ∃ a vs, v = .ref a ∧ H a = some (.lst vs) ∧ RpL K ct F ds vs
  | .dct ks ws => ∃ a o, v = .ref a ∧ H a = some o ∧ OwO K ct F (.dct ks ws) o
  | .obj c fs => ∃ a o, v = .ref a ∧ H a = some o ∧ OwO K ct F (.obj c fs) o
  | d => Rp K ct F d v
theorem Rv.of {K : Frag} {ct : Ct} {F H : Hp} {d : D} {v : V} (hs : Same F H) (r : Rp K ct F d v) : Rv K ct F H d v := by
  cases d with
  | lst ds =>
    rw [rp_lst] at r
    obtain ⟨a, vs, rfl, h1, h2⟩ := r
    exact ⟨a, vs, rfl, hs _ _ h1, h2⟩
  | dct ks ws =>
    simp only [Rp] at r
    obtain ⟨a, vs, rfl, h1, h2, h3⟩ := r
    rcases h3 with ⟨kk, e1, e2⟩ | ⟨kk, e1, e2⟩
    · subst e1
      exact ⟨a, _, rfl, hs _ _ e2, .dK h1 (by simpa using h2)⟩
    · subst e1
      exact ⟨a, _, rfl, hs _ _ e2, .dT h1 (by simpa using h2)⟩
  | obj c fs =>
    obtain ⟨a, dx, vs, rfl, h1, h2, h3⟩ := rp_obj.mp r
    exact ⟨a, _, rfl, hs _ _ h1, .ins h3 h2⟩
  | _ => exact r
theorem Rv.own {K : Frag} {ct : Ct} {F H : Hp} {d : D} {a : Addr} {o : HO} (h : H a = some o) (r : OwO K ct F d o) : Rv K ct F H d (.ref a) := by
  cases r with
  | lst r => exact ⟨a, _, rfl, h, r⟩
  | dK r l => exact ⟨a, _, rfl, h, .dK r l⟩
  | dT r l => exact ⟨a, _, rfl, h, .dT r l⟩
  | ins r l => exact ⟨a, _, rfl, h, .ins r l⟩
def RvL (K : Frag) (ct : Ct) (F H : Hp) : List D → List V → Prop
  | [], vs => vs = []
  | d :: ds, vs => ∃ v r, vs = v :: r ∧ Rv K ct F H d v ∧ RvL K ct F H ds r
theorem RvL.of {K : Frag} {ct : Ct} {F H : Hp} (hs : Same F H) : ∀ {ds : List D} {vs : List V}, RpL K ct F ds vs → RvL K ct F H ds vs
  | [], vs, h => by rw [rpl_nil] at h; exact h
  | d :: ds, vs, h => by
    rw [rpl_cons] at h
    obtain ⟨v, r, rfl, h1, h2⟩ := h
    exact ⟨v, r, rfl, .of hs h1, .of hs h2⟩
section
variable {K : Frag} {ct : Ct} {F H : Hp} {v : V}
theorem rv_non : Rv K ct F H .non v ↔ v = .non := by show Rp K ct F _ v ↔ _; exact rp_non
theorem rv_bl {b : Bool} : Rv K ct F H (.bl b) v ↔ v = .bl b := by show Rp K ct F _ v ↔ _; exact rp_bl
theorem rv_int {i : Int} : Rv K ct F H (.int i) v ↔ v = .int i := by show Rp K ct F _ v ↔ _; exact rp_int
theorem rv_str {x : Str} : Rv K ct F H (.str x) v ↔ v = .str x := by show Rp K ct F _ v ↔ _; exact rp_str
theorem rv_tup {xs : List D} : Rv K ct F H (.tup xs) v ↔ ∃ a vs, v = .ref a ∧ SqT K F a vs ∧ RpL K ct F xs vs := by show Rp K ct F _ v ↔ _; exact rp_tup
theorem rv_lst {xs : List D} : Rv K ct F H (.lst xs) v ↔ ∃ a vs, v = .ref a ∧ H a = some (.lst vs) ∧ RpL K ct F xs vs := Iff.rfl
theorem rv_scr {ns : List Int} : Rv K ct F H (.scr ns) v ↔ ∃ a, v = .ref a ∧ SqL K F a (ns.map V.int) := by show Rp K ct F _ v ↔ _; exact rp_scr
theorem rv_obj {c : Nat} {fs : List D} : Rv K ct F H (.obj c fs) v ↔ ∃ a o, v = .ref a ∧ H a = some o ∧ OwO K ct F (.obj c fs) o := Iff.rfl
theorem rv_dct {ks ws : List D} : Rv K ct F H (.dct ks ws) v ↔ ∃ a o, v = .ref a ∧ H a = some o ∧ OwO K ct F (.dct ks ws) o := Iff.rfl
theorem rvl_nil {vs : List V} : RvL K ct F H [] vs ↔ vs = [] := Iff.rfl
theorem rvl_cons {d : D} {ds : List D} {vs : List V} : RvL K ct F H (d :: ds) vs ↔ ∃ v r, vs = v :: r ∧ Rv K ct F H d v ∧ RvL K ct F H ds r := Iff.rfl
end
/-- slot i owns a -/
def Ow1 (Γ : List Kd) (σ : L2.St) (i : Nat) (a : Addr) : Prop := (Γ[i]? = some .ow ∨ Γ[i]? = some .io) ∧ σ[i]? = some (some (.ref a))
def Own (Γ : List Kd) (σ : L2.St) (a : Addr) : Prop := ∃ i, Ow1 Γ σ i a
structure RS (C : Fx) (Γ : List Kd) (F : Hp) (ρ : Env) (σ : L2.St) (H : Hp) : Prop where
  sub : Same F H
  ext : Ext C.io C.F0 C.H0 F H
  ln : ρ.length = σ.length
  lg : Γ.length = σ.length
  no : ∀ i : Nat, ρ[i]? = some none → σ[i]? = some none
  fz : ∀ (i : Nat) d, Γ[i]? = some .fz → ρ[i]? = some (some d) → ∃ u, σ[i]? = some (some u) ∧ Rp C.K C.ct F d u
  ow : ∀ (i : Nat) d k, Γ[i]? = some k → k ≠ .fz → ρ[i]? = some (some d) → ∃ a o, σ[i]? = some (some (.ref a)) ∧ F a = none ∧ H a = some o ∧ OwO C.K C.ct F d o ∧ (C.io a ∨ C.H0 a = none) ∧ (k = .ow → C.H0 a = none)
  dj : ∀ i j a, Ow1 Γ σ i a → Ow1 Γ σ j a → i = j
  hio : ∀ p ∈ C.ios, Γ[p.1]? = some .io ∧ σ[p.1]? = some (some (.ref p.2)) ∧ ∃ d, ρ[p.1]? = some (some d)
/-- what is known behind a body: the objects handed in, as they stand -/
structure RO (C : Fx) (F : Hp) (ρ : Env) (H : Hp) : Prop where
  sub : Same F H
  ext : Ext C.io C.F0 C.H0 F H
  io : ∀ p ∈ C.ios, ∃ d o, ρ[p.1]? = some (some d) ∧ F p.2 = none ∧ H p.2 = some o ∧ OwO C.K C.ct F d o
section
variable {C : Fx} {Γ : List Kd} {F F' H H' : Hp} {ρ : Env} {σ : L2.St}
theorem RS.ro (r : RS C Γ F ρ σ H) : RO C F ρ H := ⟨r.sub, r.ext, fun p hp => by
  obtain ⟨h1, h2, d, h3⟩ := r.hio p hp
  obtain ⟨a, o, e1, e2, e3, e4, _⟩ := r.ow _ d _ h1 (by decide) h3
  rw [h2] at e1
  cases e1
  exact ⟨d, o, h3, e2, e3, e4⟩⟩
/-- a slot that owns an address holds a datum -/
theorem RS.owned (r : RS C Γ F ρ σ H) {i : Nat} {a : Addr} (h : Ow1 Γ σ i a) : ∃ k d o, Γ[i]? = some k ∧ k ≠ .fz ∧ ρ[i]? = some (some d) ∧ F a = none ∧ H a = some o ∧ OwO C.K C.ct F d o ∧ (C.io a ∨ C.H0 a = none) ∧ (k = .ow → C.H0 a = none) := by
  obtain ⟨hk, hs⟩ := h
  have hi : i < ρ.length := by rw [r.ln]; exact (List.getElem?_eq_some_iff.mp hs).1
  obtain ⟨k, e1, e2⟩ : ∃ k, Γ[i]? = some k ∧ k ≠ .fz := by
    rcases hk with h | h
    · exact ⟨_, h, by decide⟩
    · exact ⟨_, h, by decide⟩
  cases e : ρ[i]? with
  | none => simp at e; omega
  | some x =>
    cases x with
    | none => rw [r.no i e] at hs; cases hs
    | some d =>
      obtain ⟨b, o, q1, q2, q3, q4, q5, q6⟩ := r.ow i d k e1 e2 e
      rw [hs] at q1
      cases q1
      exact ⟨k, d, o, e1, e2, rfl, q2, q3, q4, q5, q6⟩
theorem RS.own_io (r : RS C Γ F ρ σ H) : ∀ c, Own Γ σ c → C.io c ∨ C.H0 c = none := fun c ⟨i, h⟩ => by
  obtain ⟨k, d, o, _, _, _, _, _, _, q, _⟩ := r.owned h
  exact q
theorem RS.own_some (r : RS C Γ F ρ σ H) {c : Addr} (h : Own Γ σ c) : F c = none ∧ ∃ o, H c = some o := by
  obtain ⟨i, h⟩ := h
  obtain ⟨k, d, o, _, _, _, q1, q2, _⟩ := r.owned h
  exact ⟨q1, o, q2⟩
/-- the heap grows, nothing owned is touched -/
theorem RS.grow (r : RS C Γ F ρ σ H) (e : Ext (fun _ => False) F H F' H') (hs : Same F' H') : RS C Γ F' ρ σ H' where
  sub := hs
  ext := r.ext.then e fun _ z => z.elim
  ln := r.ln
  lg := r.lg
  no := r.no
  fz := fun i d h1 h2 => by
    obtain ⟨u, q1, q2⟩ := r.fz i d h1 h2
    exact ⟨u, q1, q2.mono e.f⟩
  ow := fun i d k h1 h2 h3 => by
    obtain ⟨a, o, q1, q2, q3, q4, q5, q6⟩ := r.ow i d k h1 h2 h3
    refine ⟨a, o, q1, ?_, e.h a o q3 (fun z => z), q4.mono e.f, q5, q6⟩
    cases z : F' a with
    | none => rfl
    | some x =>
      rcases e.g a (by rw [z]; simp) with w | w
      · exact absurd q2 w
      · rw [q3] at w; cases w
  dj := r.dj
  hio := r.hio
/-- a new frozen object -/
theorem RS.newF (r : RS C Γ F ρ σ H) {p : Addr} {o : HO} (hp : H p = none) : RS C Γ (upd F p o) ρ σ (upd H p o) := r.grow (Ext.newF r.sub hp) (same_new r.sub hp)
theorem RS.newH (r : RS C Γ F ρ σ H) {p : Addr} {o : HO} (hp : H p = none) : RS C Γ F ρ σ (upd H p o) := r.grow (Ext.newH hp) (same_updH r.sub (r.sub.free hp))
/-- slot i's own object is written -/
theorem RS.write (r : RS C Γ F ρ σ H) {i : Nat} {a : Addr} {d : D} {o : HO} (h : Ow1 Γ σ i a) (q : OwO C.K C.ct F d o) : RS C Γ F (ρ.set i (some d)) σ (upd H a o) := by
  obtain ⟨k, d0, o0, e1, e2, e3, e4, e5, e6, e7, e8⟩ := r.owned h
  have hi : i < ρ.length := by rw [r.ln]; exact (List.getElem?_eq_some_iff.mp h.2).1
  refine ⟨same_updH r.sub e4, r.ext.then (own := fun b => b = a) (Ext.wr rfl) (fun c hc => by subst hc; exact e7), by simpa using r.ln, r.lg, fun j hj => ?_, fun j d' h1 h2 => ?_, fun j d' k' h1 h2 h3 => ?_, r.dj, fun p hp => ?_⟩
  · by_cases z : i = j
    · subst z; rw [List.getElem?_set_self hi] at hj; cases hj
    · rw [List.getElem?_set_ne z] at hj; exact r.no j hj
  · have z : i ≠ j := fun z => by subst z; rw [e1] at h1; cases h1; exact e2 rfl
    rw [List.getElem?_set_ne z] at h2
    exact r.fz j d' h1 h2
  · by_cases z : i = j
    · subst z
      rw [e1] at h1; cases h1
      rw [List.getElem?_set_self hi] at h3
      cases h3
      exact ⟨a, o, h.2, e4, upd_same, q, e7, e8⟩
    · rw [List.getElem?_set_ne z] at h3
      obtain ⟨b, ob, q1, q2, q3, q4, q5, q6⟩ := r.ow j d' k' h1 h2 h3
      have nb : b ≠ a := fun zz => by
        subst zz
        refine z (r.dj i j b h ⟨?_, q1⟩)
        cases k' with
        | fz => exact absurd rfl h2
        | ow => exact .inl h1
        | io => exact .inr h1
      exact ⟨b, ob, q1, q2, by rw [upd_ne nb]; exact q3, q4, q5, q6⟩
  · obtain ⟨q1, q2, d', q3⟩ := r.hio p hp
    refine ⟨q1, q2, ?_⟩
    by_cases z : i = p.1
    · subst z; exact ⟨d, List.getElem?_set_self hi⟩
    · exact ⟨d', by rw [List.getElem?_set_ne z]; exact q3⟩
/-- a slot (none that was handed in) takes frozen data -/
theorem RS.setF (r : RS C Γ F ρ σ H) {i : Nat} {d : D} {v : V} (hk : ∃ k, Γ[i]? = some k ∧ k ≠ .io) (q : Rp C.K C.ct F d v) : RS C (Γ.set i .fz) F (ρ.set i (some d)) (σ.set i (some v)) H := by
  obtain ⟨k, hk, hki⟩ := hk
  have hi : i < Γ.length := (List.getElem?_eq_some_iff.mp hk).1
  have hi1 : i < σ.length := by rw [← r.lg]; exact hi
  have hi2 : i < ρ.length := by rw [r.ln]; exact hi1
  have o1 : ∀ {j a}, Ow1 (Γ.set i .fz) (σ.set i (some v)) j a → j ≠ i ∧ Ow1 Γ σ j a := fun {j a} ⟨h1, h2⟩ => by
    have z : i ≠ j := fun z => by subst z; rw [List.getElem?_set_self hi] at h1; rcases h1 with h1 | h1 <;> cases h1
    rw [List.getElem?_set_ne z] at h1 h2
    exact ⟨z.symm, h1, h2⟩
  refine ⟨r.sub, r.ext, by simpa using r.ln, by simpa using r.lg, fun j hj => ?_, fun j d' h1 h2 => ?_, fun j d' k' h1 h2 h3 => ?_, fun j l a a1 a2 => r.dj j l a (o1 a1).2 (o1 a2).2, fun p hp => ?_⟩
  · by_cases z : i = j
    · subst z; rw [List.getElem?_set_self hi2] at hj; cases hj
    · rw [List.getElem?_set_ne z] at hj ⊢; exact r.no j hj
  · by_cases z : i = j
    · subst z
      rw [List.getElem?_set_self hi2] at h2; cases h2
      exact ⟨v, List.getElem?_set_self hi1, q⟩
    · rw [List.getElem?_set_ne z] at h1 h2 ⊢
      exact r.fz j d' h1 h2
  · have z : i ≠ j := fun z => by subst z; rw [List.getElem?_set_self hi] at h1; cases h1; exact h2 rfl
    rw [List.getElem?_set_ne z] at h1 h3 ⊢
    exact r.ow j d' k' h1 h2 h3
  · obtain ⟨q1, q2, d', q3⟩ := r.hio p hp
    have z : i ≠ p.1 := fun z => by rw [← z, hk] at q1; cases q1; exact hki rfl
    rw [List.getElem?_set_ne z, List.getElem?_set_ne z, List.getElem?_set_ne z]
    exact ⟨q1, q2, d', q3⟩
/-- a slot takes an object of its own -/
theorem RS.setO (r : RS C Γ F ρ σ H) {i : Nat} {d : D} {a : Addr} {o : HO} (hk : ∃ k, Γ[i]? = some k ∧ k ≠ .io) (q : OwO C.K C.ct F d o) (ha : F a = none) (hh : H a = some o) (h0 : C.H0 a = none) (new : ¬ Own Γ σ a) :
    RS C (Γ.set i .ow) F (ρ.set i (some d)) (σ.set i (some (.ref a))) H := by
  obtain ⟨k, hk, hki⟩ := hk
  have hi : i < Γ.length := (List.getElem?_eq_some_iff.mp hk).1
  have hi1 : i < σ.length := by rw [← r.lg]; exact hi
  have hi2 : i < ρ.length := by rw [r.ln]; exact hi1
  have o1 : ∀ {j b}, Ow1 (Γ.set i .ow) (σ.set i (some (.ref a))) j b → (j = i ∧ b = a) ∨ (j ≠ i ∧ Ow1 Γ σ j b) := fun {j b} ⟨h1, h2⟩ => by
    by_cases z : i = j
    · subst z; rw [List.getElem?_set_self hi1] at h2; cases h2; exact .inl ⟨rfl, rfl⟩
    · rw [List.getElem?_set_ne z] at h1 h2
      exact .inr ⟨fun q => z q.symm, h1, h2⟩
  refine ⟨r.sub, r.ext, by simpa using r.ln, by simpa using r.lg, fun j hj => ?_, fun j d' h1 h2 => ?_, fun j d' k' h1 h2 h3 => ?_, fun j l b a1 a2 => ?_, fun p hp => ?_⟩
  · by_cases z : i = j
    · subst z; rw [List.getElem?_set_self hi2] at hj; cases hj
    · rw [List.getElem?_set_ne z] at hj ⊢; exact r.no j hj
  · have z : i ≠ j := fun z => by subst z; rw [List.getElem?_set_self hi] at h1; cases h1
    rw [List.getElem?_set_ne z] at h1 h2 ⊢
    exact r.fz j d' h1 h2
  · by_cases z : i = j
    · subst z
      rw [List.getElem?_set_self hi] at h1; cases h1
      rw [List.getElem?_set_self hi2] at h3; cases h3
      exact ⟨a, o, List.getElem?_set_self hi1, ha, hh, q, .inr h0, fun _ => h0⟩
    · rw [List.getElem?_set_ne z] at h1 h3 ⊢
      exact r.ow j d' k' h1 h2 h3
  · rcases o1 a1 with ⟨e1, e2⟩ | ⟨e1, e2⟩
    · rcases o1 a2 with ⟨e3, _⟩ | ⟨e3, e4⟩
      · rw [e1, e3]
      · subst e2; exact absurd ⟨l, e4⟩ new
    · rcases o1 a2 with ⟨e3, e4⟩ | ⟨e3, e4⟩
      · subst e4; exact absurd ⟨j, e2⟩ new
      · exact r.dj j l b e2 e4
  · obtain ⟨q1, q2, d', q3⟩ := r.hio p hp
    have z : i ≠ p.1 := fun z => by rw [← z, hk] at q1; cases q1; exact hki rfl
    rw [List.getElem?_set_ne z, List.getElem?_set_ne z, List.getElem?_set_ne z]
    exact ⟨q1, q2, d', q3⟩
/-- a slot's own object is frozen -/
theorem RS.frz (r : RS C Γ F ρ σ H) {i : Nat} (hk : ∃ k, Γ[i]? = some k ∧ k ≠ .io) : ∃ F', Same F F' ∧ RS C (Γ.set i .fz) F' ρ σ H := by
  obtain ⟨k, hk, hki⟩ := hk
  have hi : i < Γ.length := (List.getElem?_eq_some_iff.mp hk).1
  have hi2 : i < ρ.length := by rw [r.ln, ← r.lg]; exact hi
  have o1 : ∀ {j a}, Ow1 (Γ.set i .fz) σ j a → j ≠ i ∧ Ow1 Γ σ j a := fun {j a} ⟨h1, h2⟩ => by
    have z : i ≠ j := fun z => by subst z; rw [List.getElem?_set_self hi] at h1; rcases h1 with h1 | h1 <;> cases h1
    rw [List.getElem?_set_ne z] at h1
    exact ⟨z.symm, h1, h2⟩
  have hio : ∀ p ∈ C.ios, (Γ.set i .fz)[p.1]? = some .io ∧ σ[p.1]? = some (some (.ref p.2)) ∧ ∃ d, ρ[p.1]? = some (some d) := fun p hp => by
    obtain ⟨q1, q2, d', q3⟩ := r.hio p hp
    have z : i ≠ p.1 := fun z => by rw [← z, hk] at q1; cases q1; exact hki rfl
    rw [List.getElem?_set_ne z]
    exact ⟨q1, q2, d', q3⟩
  by_cases hn : k = .fz ∨ ρ[i]? = some none
  · refine ⟨F, Same.refl _, r.sub, r.ext, r.ln, by simpa using r.lg, r.no, fun j d h1 h2 => ?_, fun j d k' h1 h2 h3 => ?_, fun j l a a1 a2 => r.dj j l a (o1 a1).2 (o1 a2).2, hio⟩
    · by_cases z : i = j
      · subst z
        rcases hn with e | e
        · subst e; exact r.fz i d hk h2
        · rw [e] at h2; cases h2
      · rw [List.getElem?_set_ne z] at h1; exact r.fz j d h1 h2
    · have z : i ≠ j := fun z => by subst z; rw [List.getElem?_set_self hi] at h1; cases h1; exact h2 rfl
      rw [List.getElem?_set_ne z] at h1
      exact r.ow j d k' h1 h2 h3
  · have hkf : k ≠ .fz := fun z => hn (.inl z)
    obtain ⟨d, hd⟩ : ∃ d, ρ[i]? = some (some d) := by
      cases e : ρ[i]? with
      | none => simp at e; omega
      | some x =>
        cases x with
        | none => exact absurd (.inr e) hn
        | some d => exact ⟨d, rfl⟩
    obtain ⟨a, o, e1, e2, e3, e4, e5, e6⟩ := r.ow i d k hk hkf hd
    have ho : k = .ow := by cases k with
      | fz => exact absurd rfl hkf
      | ow => rfl
      | io => exact absurd rfl hki
    have e7 := e6 ho
    have sm : Same F (upd F a o) := same_updF e2
    refine ⟨upd F a o, sm, same_frz r.sub e3, r.ext.frz e7 e2, r.ln, by simpa using r.lg, r.no, fun j d' h1 h2 => ?_, fun j d' k' h1 h2 h3 => ?_, fun j l b a1 a2 => r.dj j l b (o1 a1).2 (o1 a2).2, hio⟩
    · by_cases z : i = j
      · subst z
        rw [hd] at h2; cases h2
        exact ⟨.ref a, e1, e4.frz e2⟩
      · rw [List.getElem?_set_ne z] at h1
        obtain ⟨u, q1, q2⟩ := r.fz j d' h1 h2
        exact ⟨u, q1, q2.mono sm⟩
    · have z : i ≠ j := fun z => by subst z; rw [List.getElem?_set_self hi] at h1; cases h1; exact h2 rfl
      rw [List.getElem?_set_ne z] at h1
      obtain ⟨b, ob, q1, q2, q3, q4, q5, q6⟩ := r.ow j d' k' h1 h2 h3
      have nb : b ≠ a := fun zz => by
        subst zz
        refine z (r.dj i j b ⟨.inl (by rw [hk, ho]), e1⟩ ⟨?_, q1⟩)
        cases k' with
        | fz => exact absurd rfl h2
        | ow => exact .inl h1
        | io => exact .inr h1
      exact ⟨b, ob, q1, by rw [upd_ne nb]; exact q2, q3, q4.mono sm, q5, q6⟩
end
/-! ### readings by a plain program -/
/-- how an exception lies: its class, its own dict -/
def RX (K : Frag) (ct : Ct) (F H : Hp) (x : Ex) (cl : Value) (dx : Option Addr) : Prop :=
  cl = .ref (ct x.c).1 ∧ match (ct x.c).2 with
    | [] => dx = none ∧ x.fs = []
    | ns => ∃ a vs, dx = some a ∧ H a = some (.xd (ns.zip vs)) ∧ vs.length = ns.length ∧ RpL K ct F x.fs vs
/-- what is known where an exception leaves: behind a body (none), within a try (the slots' kinds) -/
def RE (C : Fx) (ge : Option (List Kd)) (F : Hp) (ρ : Env) (σ : L2.St) (H : Hp) : Prop := match ge with
  | none => RO C F ρ H
  | some Γ => RS C Γ F ρ σ H
def GeOk (ge : Option (List Kd)) (Γ : List Kd) : Prop := ge = none ∨ ge = some Γ
theorem RE.of {C : Fx} {ge : Option (List Kd)} {Γ : List Kd} {F H : Hp} {ρ : Env} {σ : L2.St} (r : RS C Γ F ρ σ H) (h : GeOk ge Γ) : RE C ge F ρ σ H := by
  rcases h with rfl | rfl
  · exact r.ro
  · exact r
/-- the surroundings of a piece of a body: what is fixed, the exceptions' kinds and wish, the kinds behind continue -/
structure Sg where
  C : Fx
  ge : Option (List Kd)
  W : WX
  gc : List Kd
  gb : List Kd
  ro : Bool
/-- what a result is: at the start's heap, the frozen part and the heap behind it -/
abbrev Rel (α γ : Type) := Hp → Hp → Hp → α → γ → Prop
def Rel.Late {α γ : Type} (R : Rel α γ) : Prop := ∀ (H H1 F' H' : Hp) (d : α) (v : γ), (∀ b, H b ≠ none → H1 b ≠ none) → R H1 F' H' d v → R H F' H' d v
/-- the reading of an expression by m: at F -/
def TrF {α γ : Type} (S : Sg) (Γ : List Kd) (R : Rel α γ) (m : M α) (F : Hp) : L2.St → Hp → (γ → Hp → Prop) → Prop := fun σ H Q => ∃ ρ, RS S.C Γ F ρ σ H ∧
  match m ρ with
  | .ok d ρ' => ∀ v F' H', RS S.C Γ F' ρ' σ H' → Ext (Own Γ σ) F H F' H' → R H F' H' d v → Q v H'
  | .er x ρ' => ∀ cl dx F' H', Same F F' → RE S.C S.ge F' ρ' σ H' → RX S.C.K S.C.ct F' H' x cl dx → S.W cl dx σ H'
  | .no => False
def Tr {α γ : Type} (S : Sg) (Γ : List Kd) (R : Rel α γ) (m : M α) : L2.St → Hp → (γ → Hp → Prop) → Prop := fun σ H Q => ∃ F, TrF S Γ R m F σ H Q
/-- frozen data; lists of them; truths -/
def rD (S : Sg) : Rel D V := fun _ F _ d v => Rp S.C.K S.C.ct F d v
/-- what may be read -/
def rR (S : Sg) : Rel D V := fun _ F H d v => Rv S.C.K S.C.ct F H d v
def rLR (S : Sg) : Rel (List D) (List V) := fun _ F H ds vs => RvL S.C.K S.C.ct F H ds vs
theorem rR_late {S : Sg} : (rR S).Late := fun _ _ _ _ _ _ _ h => h
theorem rLR_late {S : Sg} : (rLR S).Late := fun _ _ _ _ _ _ _ h => h
def rL (S : Sg) : Rel (List D) (List V) := fun _ F _ ds vs => RpL S.C.K S.C.ct F ds vs
def rB : Rel Bool Bool := fun _ _ _ b c => b = c
/-- an object that is new and nobody's yet -/
def rO (S : Sg) : Rel D V := fun H F H' d v => ∃ a o, v = .ref a ∧ H a = none ∧ F a = none ∧ H' a = some o ∧ OwO S.C.K S.C.ct F d o
theorem rD_late {S : Sg} : (rD S).Late := fun _ _ _ _ _ _ _ h => h
theorem rL_late {S : Sg} : (rL S).Late := fun _ _ _ _ _ _ _ h => h
theorem rB_late : rB.Late := fun _ _ _ _ _ _ _ h => h
theorem rO_late {S : Sg} : (rO S).Late := fun H H1 F' H' d v k ⟨a, o, h1, h2, h3⟩ => ⟨a, o, h1, by
  cases e : H a with
  | none => rfl
  | some x => exact absurd h2 (k a (by rw [e]; simp)), h3⟩
section
variable {S : Sg} {Γ : List Kd} {α β γ δ : Type} {R : Rel α γ} {R1 : Rel β δ}
/-- THE BIND: first m, then f of what came -/
theorem TrF.bind {m : M β} {f : β → M α} {F : Hp} {σ : L2.St} {H : Hp} {Q : γ → Hp → Prop} (hR : R.Late) (h : TrF S Γ R (m.bind f) F σ H Q) :
    TrF S Γ R1 m F σ H fun v H1 => ∃ d F1, R1 H F1 H1 d v ∧ Ext (Own Γ σ) F H F1 H1 ∧ TrF S Γ R (f d) F1 σ H1 Q := by
  obtain ⟨ρ, r, h⟩ := h
  refine ⟨ρ, r, ?_⟩
  unfold M.bind at h
  cases e : m ρ with
  | no => rw [e] at h; exact h.elim
  | er x ρ' => rw [e] at h; exact h
  | ok d ρ' =>
    rw [e] at h
    intro v F1 H1 r1 x1 q1
    refine ⟨d, F1, q1, x1, ρ', r1, ?_⟩
    have h' : (match f d ρ' with
      | .ok d ρ'' => ∀ v F' H', RS S.C Γ F' ρ'' σ H' → Ext (Own Γ σ) F H F' H' → R H F' H' d v → Q v H'
      | .er x ρ'' => ∀ cl dx F' H', Same F F' → RE S.C S.ge F' ρ'' σ H' → RX S.C.K S.C.ct F' H' x cl dx → S.W cl dx σ H'
      | .no => False) := h
    cases e2 : f d ρ' with
    | no => rw [e2] at h'; exact h'.elim
    | er x ρ'' => rw [e2] at h'; exact fun cl dx F2 H2 sm re rx => h' cl dx F2 H2 (x1.f.trans sm) re rx
    | ok d2 ρ'' =>
      rw [e2] at h'
      exact fun v2 F2 H2 r2 x2 q2 => h' v2 F2 H2 r2 (x1.trans x2) (hR _ _ _ _ _ _ x1.n q2)
theorem Tr.bind {m : M β} {f : β → M α} {σ : L2.St} {H : Hp} {Q : γ → Hp → Prop} (hR : R.Late) (h : Tr S Γ R (m.bind f) σ H Q) :
    Tr S Γ R1 m σ H fun v H1 => ∃ d F1, R1 H F1 H1 d v ∧ TrF S Γ R (f d) F1 σ H1 Q := by
  obtain ⟨F, h⟩ := h
  obtain ⟨ρ, r, h⟩ := h.bind (R1 := R1) hR
  refine ⟨F, ρ, r, ?_⟩
  cases e : m ρ with
  | no => rw [e] at h; exact h.elim
  | er x ρ' => rw [e] at h; exact h
  | ok d ρ' =>
    rw [e] at h
    intro v F1 H1 r1 x1 q1
    obtain ⟨d', F', a1, _, a2⟩ := h v F1 H1 r1 x1 q1
    exact ⟨d', F', a1, a2⟩
/-- .. and R1 is kept through what follows: for two operands -/
theorem TrF.ret {a : α} {F : Hp} {σ : L2.St} {H : Hp} {Q : γ → Hp → Prop} (h : TrF S Γ R (M.ret a) F σ H Q) : ∃ ρ, RS S.C Γ F ρ σ H ∧ ∀ v F' H', RS S.C Γ F' ρ σ H' → Ext (Own Γ σ) F H F' H' → R H F' H' a v → Q v H' := h
theorem TrF.opt {o : Option α} {F : Hp} {σ : L2.St} {H : Hp} {Q : γ → Hp → Prop} (h : TrF S Γ R (M.opt o) F σ H Q) : ∃ a ρ, o = some a ∧ RS S.C Γ F ρ σ H ∧ ∀ v F' H', RS S.C Γ F' ρ σ H' → Ext (Own Γ σ) F H F' H' → R H F' H' a v → Q v H' := by
  obtain ⟨ρ, r, h⟩ := h
  cases o with
  | none => exact h.elim
  | some a => exact ⟨a, ρ, rfl, r, h⟩
/-- a result that lies where it is, nothing changed -/
theorem TrF.opt0 {o : Option α} {F : Hp} {σ : L2.St} {H : Hp} {Q : γ → Hp → Prop} (h : TrF S Γ R (M.opt o) F σ H Q) : ∃ a, o = some a ∧ Same F H ∧ ∀ v, R H F H a v → Q v H := by
  obtain ⟨a, ρ, e, r, h⟩ := h.opt
  exact ⟨a, e, r.sub, fun v q => h v F H r Ext.refl q⟩
/-- a result that is a new frozen object -/
theorem TrF.opt1 {o : Option α} {F : Hp} {σ : L2.St} {H : Hp} {Q : γ → Hp → Prop} (h : TrF S Γ R (M.opt o) F σ H Q) : ∃ a, o = some a ∧ Same F H ∧ ∀ v p ob, H p = none → R H (upd F p ob) (upd H p ob) a v → Q v (upd H p ob) := by
  obtain ⟨a, ρ, e, r, h⟩ := h.opt
  exact ⟨a, e, r.sub, fun v p ob hp q => h v _ _ (r.newF hp) (Ext.newF r.sub hp) q⟩
/-- a result that is a new object of one's own -/
theorem TrF.opt2 {o : Option α} {F : Hp} {σ : L2.St} {H : Hp} {Q : γ → Hp → Prop} (h : TrF S Γ R (M.opt o) F σ H Q) : ∃ a, o = some a ∧ Same F H ∧ ∀ v p ob, H p = none → R H F (upd H p ob) a v → Q v (upd H p ob) := by
  obtain ⟨a, ρ, e, r, h⟩ := h.opt
  exact ⟨a, e, r.sub, fun v p ob hp q => h v _ _ (r.newH hp) (Ext.newH hp) q⟩
end
/-! ### the judgements -/
section
variable (X : Cx) (S : Sg) (Γ : List Kd)
def EvE (e : Expr) (m : M D) : Prop := PE X e (Tr S Γ (rD S) m)
def EvR (e : Expr) (m : M D) : Prop := PE X e (Tr S Γ (rR S) m)
def EvAR (es : List Expr) (m : M (List D)) : Prop := PA X es (Tr S Γ (rLR S) m)
def EvO (e : Expr) (m : M D) : Prop := PE X e (Tr S Γ (rO S) m)
def EvT (e : Expr) (m : M Bool) : Prop := PT X e (Tr S Γ rB m)
def EvA (es : List Expr) (m : M (List D)) : Prop := PA X es (Tr S Γ (rL S) m)
end
theorem pe_imp {X : Cx} {e : Expr} {t t' : TE} (h : PE X e t) (k : ∀ σ H Q, t' σ H Q → t σ H Q) : PE X e t' := ⟨fun pins s σ H Q I q => h.run pins s σ H Q I (k _ _ _ q)⟩
theorem pt_imp {X : Cx} {e : Expr} {t t' : TT} (h : PT X e t) (k : ∀ σ H Q, t' σ H Q → t σ H Q) : PT X e t' := ⟨fun pins s σ H Q I q => h.run pins s σ H Q I (k _ _ _ q)⟩
theorem pa_imp {X : Cx} {e : List Expr} {t t' : TA} (h : PA X e t) (k : ∀ σ H Q, t' σ H Q → t σ H Q) : PA X e t' := ⟨fun pos pins s σ H Q I q => h.run pos pins s σ H Q I (k _ _ _ q)⟩
theorem ps_imp {X : Cx} {e : Stmt} {t t' : TS} (h : PS X e t) (k : ∀ D σ H, t' D σ H → t D σ H) : PS X e t' := ⟨fun pins s σ H D I q => h.run pins s σ H D I (k _ _ _ q)⟩
theorem pss_imp {X : Cx} {e : List Stmt} {t t' : TS} (h : PSs X e t) (k : ∀ D σ H, t' D σ H → t D σ H) : PSs X e t' := ⟨fun pins s σ H D I q => h.run pins s σ H D I (k _ _ _ q)⟩
/-- Q weakened -/
theorem TrF.mono {S : Sg} {Γ : List Kd} {α γ : Type} {R : Rel α γ} {m : M α} {F : Hp} {σ : L2.St} {H : Hp} {Q Q' : γ → Hp → Prop} (h : TrF S Γ R m F σ H Q) (k : ∀ v H', Q v H' → Q' v H') : TrF S Γ R m F σ H Q' := by
  obtain ⟨ρ, r, h⟩ := h
  refine ⟨ρ, r, ?_⟩
  cases e : m ρ with
  | no => rw [e] at h; exact h.elim
  | er x ρ' => rw [e] at h; exact h
  | ok d ρ' =>
    rw [e] at h
    exact fun v F1 H1 r1 x1 q1 => k _ _ (h v F1 H1 r1 x1 q1)
theorem Tr.mono {S : Sg} {Γ : List Kd} {α γ : Type} {R : Rel α γ} {m : M α} {σ : L2.St} {H : Hp} {Q Q' : γ → Hp → Prop} (h : Tr S Γ R m σ H Q) (k : ∀ v H', Q v H' → Q' v H') : Tr S Γ R m σ H Q' := by
  obtain ⟨F, h⟩ := h
  exact ⟨F, h.mono k⟩
end G
/-! G1: expressions. -/
namespace G
open PySem PySem.Spec PyProof.Rows L2
/-! ### names and constants -/
section
variable {X : Cx} {S : Sg} {Γ : List Kd}
def mC (d : D) : M D := M.ret d
/-- slot i -/
def mV (i : Nat) : M D := fun ρ => match ρ[i]? with
  | some (some d) => .ok d ρ
  | _ => .no
theorem e_c {d : D} {v : V} {e : Expr} (h : PE X e (tC v)) (r : ∀ F, Rp S.C.K S.C.ct F d v) : EvE X S Γ e (mC d) := pe_imp h fun σ H Q ⟨F, ρ, q, k⟩ => k v F H q Ext.refl (r F)
theorem e_int {i : Int} {j pos} : EvE X S Γ (.Constant (.int i) j pos) (mC (.int i)) := e_c pe_int fun _ => rp_int.mpr rfl
theorem e_bl {b : Bool} {j pos} : EvE X S Γ (.Constant (.bool b) j pos) (mC (.bl b)) := e_c pe_bl fun _ => rp_bl.mpr rfl
theorem e_non {j pos} : EvE X S Γ (.Constant .none j pos) (mC .non) := e_c pe_non fun _ => rp_non.mpr rfl
theorem e_str {x : Str} {j pos} : EvE X S Γ (.Constant (.str x) j pos) (mC (.str x)) := e_c pe_str fun _ => rp_str.mpr rfl
/-- a slot with frozen data -/
theorem e_v {i : Nat} {e : Expr} (h : PE X e (tVar i)) (hk : Γ[i]? = some .fz := by rfl) : EvE X S Γ e (mV i) := pe_imp h fun σ H Q ⟨F, ρ, q, k⟩ => by
  unfold mV at k
  cases e1 : ρ[i]? with
  | none => rw [e1] at k; exact k.elim
  | some x =>
    rw [e1] at k
    cases x with
    | none => exact k.elim
    | some d =>
      obtain ⟨u, h1, h2⟩ := q.fz i d hk e1
      exact ⟨u, h1, k u F H q Ext.refl h2⟩
/-! ### what a value does: two operands, one -/
/-- the heap behind an operation: as it was, or with one new object -/
inductive Gw (F H : Hp) : Hp → Hp → Prop
  | same : Gw F H F H
  | new {p : Addr} {o : HO} : H p = none → Gw F H (upd F p o) (upd H p o)
theorem TrF.optG {α γ : Type} {R : Rel α γ} {o : Option α} {F : Hp} {σ : L2.St} {H : Hp} {Q : γ → Hp → Prop} (h : TrF S Γ R (M.opt o) F σ H Q) : ∃ a, o = some a ∧ Same F H ∧ ∀ v F' H', Gw F H F' H' → R H F' H' a v → Q v H' := by
  obtain ⟨a, ρ, e, r, h⟩ := h.opt
  refine ⟨a, e, r.sub, fun v F' H' g q => ?_⟩
  cases g with
  | same => exact h v _ _ r Ext.refl q
  | new hp => exact h v _ _ (r.newF hp) (Ext.newF r.sub hp) q
def Op2 (K : Frag) (ct : Ct) (r : R2) (f : D → D → Option D) : Prop := ∀ (F H : Hp) (a b d : D) (v w : V) (Q : VK), Same F H → Rv K ct F H a v → Rv K ct F H b w → f a b = some d → (∀ u F' H', Gw F H F' H' → Rp K ct F' d u → Q u H') → r v w H Q
def m2 (f : D → D → Option D) (a b : M D) : M D := a.bind fun x => b.bind fun y => M.opt (f x y)
def m1 (f : D → Option D) (a : M D) : M D := a.bind fun x => M.opt (f x)
theorem tr_two {ma mb : M D} {f : D → D → Option D} {r : R2} (hr : Op2 S.C.K S.C.ct r f) {σ : L2.St} {H : Hp} {Q : VK} (h : Tr S Γ (rD S) (m2 f ma mb) σ H Q) : tOp r (Tr S Γ (rD S) ma) (Tr S Γ (rR S) mb) σ H Q := by
  refine (Tr.bind (R1 := rD S) rD_late h).mono fun v H1 ⟨d, F1, q, h⟩ => ⟨F1, (TrF.bind (R1 := rR S) rD_late h).mono fun w H2 ⟨e, F2, q2, x2, h⟩ => ?_⟩
  obtain ⟨z, e1, hs, k⟩ := h.optG
  exact hr F2 H2 d e z v w Q hs (.of hs (Rp.mono x2.f q)) q2 e1 k
/-- a slot's value, whoever owns it -/
theorem RS.rv {C : Fx} {Γ : List Kd} {F H : Hp} {ρ : Env} {σ : L2.St} (r : RS C Γ F ρ σ H) {i : Nat} {d : D} (e : ρ[i]? = some (some d)) : ∃ u, σ[i]? = some (some u) ∧ Rv C.K C.ct F H d u := by
  have hi : i < Γ.length := by rw [r.lg, ← r.ln]; exact (List.getElem?_eq_some_iff.mp e).1
  have hk : Γ[i]? = some Γ[i] := List.getElem?_eq_getElem hi
  by_cases z : Γ[i] = .fz
  · rw [z] at hk
    obtain ⟨u, h1, h2⟩ := r.fz i d hk e
    exact ⟨u, h1, .of r.sub h2⟩
  · obtain ⟨a, o, h1, h2, h3, h4, _⟩ := r.ow i d _ hk z e
    exact ⟨.ref a, h1, .own h3 h4⟩
theorem r_v {i : Nat} {e : Expr} (h : PE X e (tVar i)) : EvR X S Γ e (mV i) := pe_imp h fun σ H Q ⟨F, ρ, q, k⟩ => by
  unfold mV at k
  cases e1 : ρ[i]? with
  | none => rw [e1] at k; exact k.elim
  | some x =>
    rw [e1] at k
    cases x with
    | none => exact k.elim
    | some d =>
      obtain ⟨u, h1, h2⟩ := RS.rv q e1
      exact ⟨u, h1, k u F H q Ext.refl h2⟩
theorem TrF.rv {m : M D} {F : Hp} {σ : L2.St} {H : Hp} {Q : VK} (h : TrF S Γ (rR S) m F σ H Q) : TrF S Γ (rD S) m F σ H Q := by
  obtain ⟨ρ, rs, h⟩ := h
  refine ⟨ρ, rs, ?_⟩
  cases e : m ρ with
  | no => rw [e] at h; exact h
  | er x ρ' => rw [e] at h; exact h
  | ok d ρ' =>
    rw [e] at h
    exact fun v F1 H1 r1 x1 q => h v F1 H1 r1 x1 (.of r1.sub q)
theorem e_r {e : Expr} {m : M D} (h : EvE X S Γ e m) : EvR X S Γ e m := pe_imp h fun σ H Q ⟨F, q⟩ => ⟨F, q.rv⟩
/-- the left operand a slot that is read late -/
def m2L (f : D → D → Option D) (i : Nat) (b : M D) : M D := (mV i).bind fun _ => b.bind fun y => (mV i).bind fun x => M.opt (f x y)
theorem TrF.slot {α γ : Type} {R : Rel α γ} {i : Nat} {k : D → M α} {F : Hp} {σ : L2.St} {H : Hp} {Q : γ → Hp → Prop} (h : TrF S Γ R ((mV i).bind k) F σ H Q) : ∃ d u, σ[i]? = some (some u) ∧ Rv S.C.K S.C.ct F H d u ∧ TrF S Γ R (k d) F σ H Q := by
  obtain ⟨ρ, rs, h⟩ := h
  unfold M.bind mV at h
  cases e : ρ[i]? with
  | none => rw [e] at h; exact h.elim
  | some x =>
    rw [e] at h
    cases x with
    | none => exact h.elim
    | some d =>
      obtain ⟨u, h1, h2⟩ := RS.rv rs e
      exact ⟨d, u, h1, h2, ρ, rs, h⟩
theorem tr_twoL {i : Nat} {mb : M D} {f : D → D → Option D} {r : R2} (hr : Op2 S.C.K S.C.ct r f) {σ : L2.St} {H : Hp} {Q : VK} (h : Tr S Γ (rD S) (m2L f i mb) σ H Q) : tOp r (tVar i) (Tr S Γ (rR S) mb) σ H Q := by
  obtain ⟨F, h⟩ := h
  obtain ⟨_, v, hv, _, h⟩ := h.slot
  refine ⟨v, hv, F, (TrF.bind (R1 := rR S) rD_late h).mono fun w H2 ⟨e, F2, q2, x2, h⟩ => ?_⟩
  obtain ⟨d, u, hu, hr2, h⟩ := h.slot
  rw [hv] at hu
  cases hu
  obtain ⟨z, e1, hs, k⟩ := h.optG
  exact hr F2 H2 d e z v w Q hs hr2 q2 e1 k
theorem e_op {op : Operator} {a b : Expr} {ma mb : M D} {f : D → D → Option D} {r : R2} {pos : Pos} (ho : OpR X (binaryOp op) r) (hr : Op2 S.C.K S.C.ct r f) (ha : EvE X S Γ a ma) (hb : EvR X S Γ b mb) : EvE X S Γ (.BinOp a op b pos) (m2 f ma mb) := pe_imp (pe_op ho ha hb) fun _ _ _ => tr_two hr
theorem e_opL {op : Operator} {a b : Expr} {i : Nat} {mb : M D} {f : D → D → Option D} {r : R2} {pos : Pos} (ho : OpR X (binaryOp op) r) (hr : Op2 S.C.K S.C.ct r f) (ha : PE X a (tVar i)) (hb : EvR X S Γ b mb) : EvE X S Γ (.BinOp a op b pos) (m2L f i mb) := pe_imp (pe_op ho ha hb) fun _ _ _ => tr_twoL hr
theorem opR_or {f : Value → Value → Sem Value} {r r' : R2} (h : OpR X f r) (h' : OpR X f r') : OpR X f (fun x y H Q => r x y H Q ∨ r' x y H Q) := fun pins s σ H x y v u Q I rx ry q =>
  q.elim (fun z => h pins s σ H x y v u Q I rx ry z) fun z => h' pins s σ H x y v u Q I rx ry z
instance (i j : Int) : Decidable (CMul i j) := by unfold CMul; exact inferInstance
instance (i j : Int) : Decidable (CDivN i j) := by unfold CDivN; exact inferInstance
instance (i j : Int) : Decidable (CPow i j) := by unfold CPow; exact inferInstance
def dAdd : D → D → Option D
  | .int i, .int j => some (.int (i + j))
  | .str x, .str y => if x.length + y.length ≤ sizeLine then some (.str (x ++ y)) else none
  | .lst x, .lst y => if x.length + y.length ≤ sizeLine then some (.lst (x ++ y)) else none
  | .tup x, .tup y => if x.length + y.length ≤ sizeLine then some (.tup (x ++ y)) else none
  | _, _ => none
def rAdd (K : Frag) : R2 := fun x y H Q => (rI0 (fun i j => .int (i + j)) x y H Q ∨ (∃ i j, x = .str i ∧ y = .str j ∧ i.length + j.length ≤ sizeLine ∧ Q (.str (i ++ j)) H)) ∨ (rCat x y H Q ∨ rCatA K x y H Q)
theorem op_addAny : OpR X (binaryOp .Add) (rAdd X.K) := opR_or (opR_or op_add op_add_str) (opR_or op_cat op_catA)
theorem op2_add {K : Frag} {ct : Ct} : Op2 K ct (rAdd K) dAdd := by
  intro F H a b d v w Q hs ra rb e q
  cases a <;> cases b <;> simp only [dAdd] at e <;> try (cases e; done)
  · rw [rv_int] at ra rb
    cases e
    subst ra rb
    exact .inl (.inl ⟨_, _, rfl, rfl, q _ _ _ .same (rp_int.mpr rfl)⟩)
  · rw [rv_str] at ra rb
    split at e
    · rename_i hz
      cases e
      subst ra rb
      exact .inl (.inr ⟨_, _, rfl, rfl, hz, q _ _ _ .same (rp_str.mpr rfl)⟩)
    · cases e
  · rw [rv_tup] at ra rb
    split at e
    · rename_i hz
      cases e
      obtain ⟨p, vs, rfl, h1, h2⟩ := ra
      obtain ⟨p', vs', rfl, h1', h2'⟩ := rb
      refine .inr (.inr ⟨p, p', vs, vs', rfl, rfl, same_t hs h1, same_t hs h1', by rw [← h2.length, ← h2'.length]; exact hz, ?_⟩)
      refine ⟨fun e0 => ?_, fun e0 e1 => ?_, fun e0 e1 l hl => ?_⟩
      · subst e0
        have : RpL K ct F _ [] := h2
        have e2 := h2.length
        simp at e2
        subst e2
        exact q _ _ _ .same (rp_tup.mpr ⟨p', vs', rfl, h1', by simpa using h2'⟩)
      · subst e1
        have e2 := h2'.length
        simp at e2
        subst e2
        exact q _ _ _ .same (rp_tup.mpr ⟨p, vs, rfl, h1, by simpa using h2⟩)
      · have hf : F l = none := hs.free hl
        exact q _ _ _ (.new (o := .tup (vs ++ vs')) hl) (rp_tup.mpr ⟨l, _, rfl, SqT.of upd_same, (h2.append h2').mono (same_updF hf)⟩)
    · cases e
  · rw [rv_lst] at ra rb
    split at e
    · rename_i hz
      cases e
      obtain ⟨p, vs, rfl, h1, h2⟩ := ra
      obtain ⟨p', vs', rfl, h1', h2'⟩ := rb
      refine .inr (.inl ⟨p, p', vs, vs', rfl, rfl, h1, h1', by rw [← h2.length, ← h2'.length]; exact hz, fun l hl => ?_⟩)
      have hf : F l = none := hs.free hl
      exact q _ _ _ (.new (o := .lst (vs ++ vs')) hl) (rp_lst.mpr ⟨l, _, rfl, upd_same, (h2.append h2').mono (same_updF hf)⟩)
    · cases e
end
end G
namespace G
open PySem PySem.Spec PyProof.Rows L2
/-! ### whole numbers -/
section
variable {X : Cx} {S : Sg} {Γ : List Kd} {K : Frag} {ct : Ct}
/-- two whole numbers, under C -/
def dInt (C : Int → Int → Prop) [∀ i j, Decidable (C i j)] (g : Int → Int → Int) : D → D → Option D
  | .int i, .int j => if C i j then some (.int (g i j)) else none
  | _, _ => none
theorem op2_int {C : Int → Int → Prop} [∀ i j, Decidable (C i j)] {g : Int → Int → Int} : Op2 K ct (rI C fun i j => .int (g i j)) (dInt C g) := by
  intro F H a b d v w Q hs ra rb e q
  cases a <;> cases b <;> simp only [dInt] at e <;> try (cases e; done)
  rw [rv_int] at ra rb
  split at e
  · rename_i hc
    cases e
    exact ⟨_, _, ra, rb, hc, q _ _ _ .same (rp_int.mpr rfl)⟩
  · cases e
def CTrue : Int → Int → Prop := fun _ _ => True
instance (i j : Int) : Decidable (CTrue i j) := isTrue trivial
instance (i j : Int) : Decidable ((fun (_ j : Int) => j ≠ 0) i j) := by show Decidable (j ≠ 0); exact inferInstance
instance (i j : Int) : Decidable ((fun (_ j : Int) => 0 ≤ j) i j) := by show Decidable (0 ≤ j); exact inferInstance
theorem op_subT : OpR X (binaryOp .Sub) (rI CTrue fun i j => .int (i - j)) := fun pins s σ H x y v u Q I rx ry h => by
  obtain ⟨i, j, e1, e2, _, q⟩ := h
  exact op_sub pins s σ H x y v u Q I rx ry ⟨i, j, e1, e2, q⟩
abbrev dSub : D → D → Option D := dInt CTrue fun i j => i - j
abbrev dFd : D → D → Option D := dInt CDivN fun i j => i.fdiv j
abbrev dMd : D → D → Option D := dInt (fun _ j => j ≠ 0) fun i j => i.fmod j
abbrev dPw : D → D → Option D := dInt CPow fun i j => i ^ j.toNat
def dMul : D → D → Option D
  | .int i, .int j => if CMul i j then some (.int (i * j)) else none
  | .lst x, .int k => if -(2 ^ 63) ≤ k ∧ k < 2 ^ 63 ∧ x.length * k.toNat ≤ sizeLine then some (.lst (List.replicate k.toNat x).flatten) else none
  | _, _ => none
theorem rpl_rep {F : Hp} {ds : List D} {vs : List V} (h : RpL K ct F ds vs) : ∀ n : Nat, RpL K ct F (List.replicate n ds).flatten (List.replicate n vs).flatten
  | 0 => rpl_nil.mpr rfl
  | n + 1 => by
    rw [List.replicate_succ, List.replicate_succ, List.flatten_cons, List.flatten_cons]
    exact h.append (rpl_rep h n)
theorem op2_mul : Op2 K ct (fun x y H Q => rI CMul (fun i j => .int (i * j)) x y H Q ∨ rRep x y H Q) dMul := by
  intro F H a b d v w Q hs ra rb e q
  cases a <;> cases b <;> simp only [dMul] at e <;> try (cases e; done)
  · rw [rv_int] at ra rb
    split at e
    · rename_i hc
      cases e
      exact .inl ⟨_, _, ra, rb, hc, q _ _ _ .same (rp_int.mpr rfl)⟩
    · cases e
  · rw [rv_int] at rb
    rw [rv_lst] at ra
    split at e
    · rename_i hc
      cases e
      obtain ⟨p, vs, rfl, h1, h2⟩ := ra
      refine .inr ⟨p, _, vs, rfl, rb, h1, hc.1, hc.2.1, by rw [← h2.length]; exact hc.2.2, fun l hl => ?_⟩
      exact q _ _ _ (.new (o := .lst (List.replicate _ vs).flatten) hl) (rp_lst.mpr ⟨l, _, rfl, upd_same, (rpl_rep h2 _).mono (same_updF (hs.free hl))⟩)
    · cases e
theorem e_add {a b : Expr} {ma mb : M D} {pos : Pos} (ha : EvE X S Γ a ma) (hb : EvR X S Γ b mb) (hK : S.C.K = X.K := by rfl) : EvE X S Γ (.BinOp a .Add b pos) (m2 dAdd ma mb) := e_op op_addAny (by rw [← hK]; exact op2_add) ha hb
theorem e_sub {a b : Expr} {ma mb : M D} {pos : Pos} (ha : EvE X S Γ a ma) (hb : EvR X S Γ b mb) : EvE X S Γ (.BinOp a .Sub b pos) (m2 dSub ma mb) := e_op op_subT op2_int ha hb
theorem e_mul {a b : Expr} {ma mb : M D} {pos : Pos} (ha : EvE X S Γ a ma) (hb : EvR X S Γ b mb) : EvE X S Γ (.BinOp a .Mult b pos) (m2 dMul ma mb) := e_op (opR_or op_mul op_rep) op2_mul ha hb
theorem e_fd {a b : Expr} {ma mb : M D} {pos : Pos} (ha : EvE X S Γ a ma) (hb : EvR X S Γ b mb) : EvE X S Γ (.BinOp a .FloorDiv b pos) (m2 dFd ma mb) := e_op op_fdivN op2_int ha hb
theorem e_md {a b : Expr} {ma mb : M D} {pos : Pos} (ha : EvE X S Γ a ma) (hb : EvR X S Γ b mb) : EvE X S Γ (.BinOp a .Mod b pos) (m2 dMd ma mb) := e_op op_modN op2_int ha hb
theorem e_pw {a b : Expr} {ma mb : M D} {pos : Pos} (ha : EvE X S Γ a ma) (hb : EvR X S Γ b mb) : EvE X S Γ (.BinOp a .Pow b pos) (m2 dPw ma mb) := e_op op_pow op2_int ha hb
def dNeg : D → Option D
  | .int i => some (.int (-i))
  | _ => none
theorem e_neg {a : Expr} {ma : M D} {pos : Pos} (ha : EvE X S Γ a ma) : EvE X S Γ (.UnaryOp .USub a pos) (m1 dNeg ma) := pe_imp (pe_un un_neg ha) fun σ H Q h => by
  refine (Tr.bind (R1 := rD S) rD_late h).mono fun v H1 ⟨d, F1, q, h⟩ => ?_
  obtain ⟨z, e1, hs, k⟩ := h.optG
  cases d <;> simp only [dNeg] at e1 <;> try (cases e1; done)
  cases e1
  exact ⟨_, rp_int.mp q, k _ _ _ .same (rp_int.mpr rfl)⟩
/-! ### data as the library has them -/
mutual
def toPy : D → Option PyData
  | .non => some .none
  | .bl b => some (.bool b)
  | .int i => some (.int i)
  | .str x => some (.str x)
  | .tup xs => (toPyL xs).map .tuple
  | .lst xs => (toPyL xs).map .list
  | .scr ns => some (.list (ns.map .int))
  | .dct _ _ => none
  | .obj _ _ => none
def toPyL : List D → Option (List PyData)
  | [] => some []
  | d :: ds => match toPy d, toPyL ds with
    | some p, some ps => some (p :: ps)
    | _, _ => none
end
theorem dpAll_ints {H : Hp} : ∀ ns : List Int, DpAll K H (ns.map V.int) (ns.map .int)
  | [] => .nil
  | n :: ns => .cons (.int n) (dpAll_ints ns)
mutual
theorem rp_dp {F H : Hp} (hs : Same F H) : ∀ {d : D} {v : V} {p : PyData}, Rp K ct F d v → toPy d = some p → Dp K H v p
  | .non, v, p, h, e => by simp only [toPy] at e; cases e; rw [rp_non] at h; subst h; exact .non
  | .bl b, v, p, h, e => by simp only [toPy] at e; cases e; rw [rp_bl] at h; subst h; exact .bl b
  | .int i, v, p, h, e => by simp only [toPy] at e; cases e; rw [rp_int] at h; subst h; exact .int i
  | .str x, v, p, h, e => by simp only [toPy] at e; cases e; rw [rp_str] at h; subst h; exact .str x
  | .tup xs, v, p, h, e => by
    simp only [toPy] at e
    rw [rp_tup] at h
    obtain ⟨a, vs, rfl, h1, h2⟩ := h
    obtain ⟨ps, e1, e2⟩ := Option.map_eq_some_iff.mp e
    subst e2
    exact .tup (same_t hs h1) (rpl_dp hs h2 e1)
  | .lst xs, v, p, h, e => by
    simp only [toPy] at e
    rw [rp_lst] at h
    obtain ⟨a, vs, rfl, h1, h2⟩ := h
    obtain ⟨ps, e1, e2⟩ := Option.map_eq_some_iff.mp e
    subst e2
    exact .lst (SqL.of (hs _ _ h1)) (rpl_dp hs h2 e1)
  | .scr ns, v, p, h, e => by
    simp only [toPy] at e; cases e
    rw [rp_scr] at h
    obtain ⟨a, rfl, h1⟩ := h
    exact .lst (same_l hs h1) (dpAll_ints ns)
  | .dct _ _, _, _, _, e => by simp only [toPy] at e; cases e
  | .obj _ _, _, _, _, e => by simp only [toPy] at e; cases e
theorem rpl_dp {F H : Hp} (hs : Same F H) : ∀ {ds : List D} {vs : List V} {ps : List PyData}, RpL K ct F ds vs → toPyL ds = some ps → DpAll K H vs ps
  | [], vs, ps, h, e => by simp only [toPyL] at e; cases e; rw [rpl_nil] at h; subst h; exact .nil
  | d :: ds, vs, ps, h, e => by
    rw [rpl_cons] at h
    obtain ⟨v, r, rfl, h1, h2⟩ := h
    simp only [toPyL] at e
    split at e
    · rename_i p ps' e1 e2
      cases e
      exact .cons (rp_dp hs h1 e1) (rpl_dp hs h2 e2)
    · cases e
end
theorem rv_dp {F H : Hp} (hs : Same F H) {d : D} {v : V} {p : PyData} (r : Rv K ct F H d v) (e : toPy d = some p) : Dp K H v p := by
  cases d with
  | lst xs =>
    rw [rv_lst] at r
    obtain ⟨a, vs, rfl, h1, h2⟩ := r
    simp only [toPy] at e
    obtain ⟨ps, e1, e2⟩ := Option.map_eq_some_iff.mp e
    subst e2
    exact .lst (SqL.of h1) (rpl_dp hs h2 e1)
  | dct _ _ => simp only [toPy] at e; cases e
  | non => exact rp_dp hs r e
  | bl _ => exact rp_dp hs r e
  | int _ => exact rp_dp hs r e
  | str _ => exact rp_dp hs r e
  | tup _ => exact rp_dp hs r e
  | scr _ => exact rp_dp hs r e
  | obj _ _ => simp only [toPy] at e; cases e
mutual
theorem toPy_plain : ∀ {d : D} {p : PyData}, toPy d = some p → PyData.plain p = true
  | .non, p, e | .bl _, p, e | .int _, p, e | .str _, p, e => by simp only [toPy] at e; cases e; simp [PyData.plain]
  | .tup xs, p, e => by
    simp only [toPy] at e
    obtain ⟨ps, e1, e2⟩ := Option.map_eq_some_iff.mp e
    subst e2
    simp [PyData.plain, toPyL_plain e1]
  | .lst xs, p, e => by
    simp only [toPy] at e
    obtain ⟨ps, e1, e2⟩ := Option.map_eq_some_iff.mp e
    subst e2
    simp [PyData.plain, toPyL_plain e1]
  | .scr ns, p, e => by
    simp only [toPy] at e; cases e
    have : ∀ ns : List Int, PyData.plainAll (ns.map .int) = true := fun ns => by
      induction ns with
      | nil => simp [PyData.plainAll]
      | cons n ns ih => simp [PyData.plainAll, PyData.plain, ih]
    simp [PyData.plain, this]
  | .dct _ _, _, e => by simp only [toPy] at e; cases e
  | .obj _ _, _, e => by simp only [toPy] at e; cases e
theorem toPyL_plain : ∀ {ds : List D} {ps : List PyData}, toPyL ds = some ps → PyData.plainAll ps = true
  | [], ps, e => by simp only [toPyL] at e; cases e; simp [PyData.plainAll]
  | d :: ds, ps, e => by
    simp only [toPyL] at e
    split at e
    · rename_i p ps' e1 e2
      cases e
      simp [PyData.plainAll, toPy_plain e1, toPyL_plain e2]
    · cases e
end
/-- two data under a rule of the library -/
def rDat (K : Frag) (g : PyData → PyData → Option Bool) : R2 := fun x y H Q => ∃ p q k, Dp K H x p ∧ Dp K H y q ∧ p.plain = true ∧ q.plain = true ∧ g p q = some k ∧ Q (.bl k) H
def dDat (g : PyData → PyData → Option Bool) (a b : D) : Option D := match toPy a, toPy b with
  | some p, some q => (g p q).map D.bl
  | _, _ => none
theorem op2_dat {g : PyData → PyData → Option Bool} : Op2 K ct (rDat K g) (dDat g) := by
  intro F H a b d v w Q hs ra rb e q
  unfold dDat at e
  split at e
  · rename_i p p' e1 e2
    obtain ⟨k, e3, e4⟩ := Option.map_eq_some_iff.mp e
    subst e4
    exact ⟨p, p', k, rv_dp hs ra e1, rv_dp hs rb e2, toPy_plain e1, toPy_plain e2, e3, q _ _ _ .same (rp_bl.mpr rfl)⟩
  · cases e
theorem opR_dat {f : Value → Value → Sem Value} {g : PyData → PyData → Option Bool}
    (rule : ∀ (s : Shared) (a b : Value) (p q : PyData) (as bs : List Addr) (k : Bool) (Q : Value → Shared → Prop), Reads s.heap a p as → Reads s.heap b q bs → p.plain = true → q.plain = true → g p q = some k → Q (.bool k) s → wpAny (model X.prog X.w) X.A (f a b) Q X.xe s) :
    OpR X f (rDat X.K g) := by
  intro pins s σ H x y v u Q I rx ry h
  obtain ⟨p, q, k, h1, h2, h3, h4, h5, h6⟩ := h
  obtain ⟨as, r1⟩ := Dp.reads I p x v h1 rx
  obtain ⟨bs, r2⟩ := Dp.reads I q y u h2 ry
  exact rule s v u p q as bs k _ r1 r2 h3 h4 h5 ⟨.bl k, H, I, rfl, h6⟩
def lowD (p q : PyData) : Bool := decide (min p.depth q.depth ≤ 60)
def isNn : PyData → Bool
  | .none => true
  | _ => false
def gEq (neg : Bool) (p q : PyData) : Option Bool := if lowD p q = true then some (if neg = true then !PyData.eqv p q else PyData.eqv p q) else none
def gCmp (r : PyData → PyData → Bool) (p q : PyData) : Option Bool := if lowD p q = true ∧ PySem.W.alike p q = true ∧ isNn p = false then some (r p q) else none
theorem low_room {p q : PyData} {A : Around} (h : lowD p q = true) (hu : A.units + 64 < cLine) : A.units + min p.depth q.depth < cLine := by
  have := of_decide_eq_true h
  omega
theorem isNn_ne {p : PyData} (h : isNn p = false) : p ≠ .none := fun e => by subst e; cases h
section
variable (hu : X.A.units + 64 < cLine)
include hu
theorem op_eqP : OpR X (compareOp .Eq) (rDat X.K (gEq false)) := opR_dat fun s a b p q as bs k Q r1 r2 h1 h2 e hq => by
  unfold gEq at e
  split at e
  · rename_i hl
    cases e
    exact PySem.SeqAt.eq_plain r1 r2 h1 h2 (low_room hl hu) hq
  · cases e
theorem op_neP : OpR X (compareOp .NotEq) (rDat X.K (gEq true)) := opR_dat fun s a b p q as bs k Q r1 r2 h1 h2 e hq => by
  unfold gEq at e
  split at e
  · rename_i hl
    cases e
    exact PySem.SeqAt.ne_plain r1 r2 h1 h2 (low_room hl hu) hq
  · cases e
theorem op_ltP : OpR X (compareOp .Lt) (rDat X.K (gCmp fun p q => PySem.W.dataLt p q)) := opR_dat fun s a b p q as bs k Q r1 r2 h1 h2 e hq => by
  unfold gCmp at e
  split at e
  · rename_i hl
    cases e
    exact PySem.W.lt_data r1 r2 hl.2.1 (isNn_ne hl.2.2) (low_room hl.1 hu) hq
  · cases e
theorem op_gtP : OpR X (compareOp .Gt) (rDat X.K (gCmp fun p q => PySem.W.dataLt q p)) := opR_dat fun s a b p q as bs k Q r1 r2 h1 h2 e hq => by
  unfold gCmp at e
  split at e
  · rename_i hl
    cases e
    exact PySem.W.gt_data r1 r2 hl.2.1 (isNn_ne hl.2.2) (low_room hl.1 hu) hq
  · cases e
theorem op_leP : OpR X (compareOp .LtE) (rDat X.K (gCmp fun p q => !PySem.W.dataLt q p)) := opR_dat fun s a b p q as bs k Q r1 r2 h1 h2 e hq => by
  unfold gCmp at e
  split at e
  · rename_i hl
    cases e
    exact PySem.W.le_data r1 r2 hl.2.1 (isNn_ne hl.2.2) (low_room hl.1 hu) hq
  · cases e
theorem op_geP : OpR X (compareOp .GtE) (rDat X.K (gCmp fun p q => !PySem.W.dataLt p q)) := opR_dat fun s a b p q as bs k Q r1 r2 h1 h2 e hq => by
  unfold gCmp at e
  split at e
  · rename_i hl
    cases e
    exact PySem.W.ge_data r1 r2 hl.2.1 (isNn_ne hl.2.2) (low_room hl.1 hu) hq
  · cases e
end
/-- x in a list, a tuple -/
def gIn (neg : Bool) (p q : PyData) : Option Bool := match q with
  | .list ys => if min (PyData.depthAll ys) p.depth ≤ 60 then some (if neg = true then !ys.any fun y => PyData.eqv y p else ys.any fun y => PyData.eqv y p) else none
  | .tuple ys => if min (PyData.depthAll ys) p.depth ≤ 60 then some (if neg = true then !ys.any fun y => PyData.eqv y p else ys.any fun y => PyData.eqv y p) else none
  | _ => none
theorem op_inP (hu : X.A.units + 64 < cLine) : OpR X (compareOp .In) (rDat X.K (gIn false)) := opR_dat fun s a b p q as bs k Q r1 r2 h1 h2 e hq => by
  cases q <;> simp only [gIn] at e <;> try (cases e; done)
  · split at e
    · cases e
      exact PySem.SeqAt.in_list_data r2 r1 (by simpa [PyData.plain] using h2) h1 (by omega) hq
    · cases e
  · split at e
    · cases e
      exact PySem.SeqAt.in_tuple_data r2 r1 (by simpa [PyData.plain] using h2) h1 (by omega) hq
    · cases e
theorem op_ninP (hu : X.A.units + 64 < cLine) : OpR X (compareOp .NotIn) (rDat X.K (gIn true)) := opR_dat fun s a b p q as bs k Q r1 r2 h1 h2 e hq => by
  cases q <;> simp only [gIn] at e <;> try (cases e; done)
  · split at e
    · cases e
      exact PySem.SeqAt.notIn_list_data r2 r1 (by simpa [PyData.plain] using h2) h1 (by omega) hq
    · cases e
  · split at e
    · cases e
      exact PySem.SeqAt.notIn_tuple_data r2 r1 (by simpa [PyData.plain] using h2) h1 (by omega) hq
    · cases e
/-- one sign in a text -/
def dSg (neg : Bool) (a b : D) : Option D := match a, b with
  | .str x, .str y => match x.cps.toList with
      | [c] => some (.bl (if neg = true then !decide (c ∈ y.cps.toList) else decide (c ∈ y.cps.toList)))
      | _ => none
  | _, _ => none
theorem str_one {x : Str} {c : Nat} (h : x.cps.toList = [c]) : x = ⟨#[c]⟩ := by
  obtain ⟨cps⟩ := x
  have h : cps.toList = [c] := h
  have e : cps = #[c] := by rw [← Array.toArray_toList (xs := cps), h]
  rw [e]
theorem op2_sg : Op2 K ct (fun x y H Q => ∃ (c : Nat) (z : Str), x = .str ⟨#[c]⟩ ∧ y = .str z ∧ Q (.bl (decide (c ∈ z.cps.toList))) H) (dSg false) := by
  intro F H a b d v w Q hs ra rb e q
  cases a <;> cases b <;> simp only [dSg] at e <;> try (cases e; done)
  rw [rv_str] at ra rb
  split at e
  · rename_i c hc
    cases e
    exact ⟨c, _, by rw [ra, str_one hc], rb, q _ _ _ .same (rp_bl.mpr (by simp))⟩
  · cases e
theorem op2_nsg : Op2 K ct (fun x y H Q => ∃ (c : Nat) (z : Str), x = .str ⟨#[c]⟩ ∧ y = .str z ∧ Q (.bl (!decide (c ∈ z.cps.toList))) H) (dSg true) := by
  intro F H a b d v w Q hs ra rb e q
  cases a <;> cases b <;> simp only [dSg] at e <;> try (cases e; done)
  rw [rv_str] at ra rb
  split at e
  · rename_i c hc
    cases e
    exact ⟨c, _, by rw [ra, str_one hc], rb, q _ _ _ .same (rp_bl.mpr (by simp))⟩
  · cases e
/-- two rules, the first that serves -/
def dOr2 (f g : D → D → Option D) (a b : D) : Option D := match f a b with
  | some d => some d
  | none => g a b
theorem op2_or {r r' : R2} {f g : D → D → Option D} (h : Op2 K ct r f) (h' : Op2 K ct r' g) : Op2 K ct (fun x y H Q => r x y H Q ∨ r' x y H Q) (dOr2 f g) := by
  intro F H a b d v w Q hs ra rb e q
  unfold dOr2 at e
  split at e
  · rename_i d' e1
    cases e
    exact .inl (h F H a b _ v w Q hs ra rb e1 q)
  · exact .inr (h' F H a b _ v w Q hs ra rb e q)
def isN : D → Bool
  | .non => true
  | _ => false
def dIsN (neg : Bool) (a b : D) : Option D := match b with
  | .non => some (.bl (if neg = true then !isN a else isN a))
  | .bl k => match a with
    | .bl j => some (.bl (if neg = true then !decide (j = k) else decide (j = k)))
    | _ => none
  | _ => none
theorem isN_dec {F H : Hp} {a : D} {v : V} (r : Rv K ct F H a v) : decide (v = .non) = isN a := by
  cases a with
  | non => rw [rv_non] at r; subst r; rfl
  | bl b => rw [rv_bl] at r; subst r; rfl
  | int b => rw [rv_int] at r; subst r; rfl
  | str b => rw [rv_str] at r; subst r; rfl
  | tup b => rw [rv_tup] at r; obtain ⟨_, _, rfl, _⟩ := r; rfl
  | lst b => rw [rv_lst] at r; obtain ⟨_, _, rfl, _⟩ := r; rfl
  | scr b => rw [rv_scr] at r; obtain ⟨_, rfl, _⟩ := r; rfl
  | dct k b => rw [rv_dct] at r; obtain ⟨_, _, rfl, _⟩ := r; rfl
  | obj k b => rw [rv_obj] at r; obtain ⟨_, _, rfl, _⟩ := r; rfl
theorem op2_isN : Op2 K ct (fun x y H Q => (y = .non ∧ Q (.bl (decide (x = .non))) H) ∨ rIsB x y H Q) (dIsN false) := by
  intro F H a b d v w Q hs ra rb e q
  cases b <;> simp only [dIsN] at e <;> try (cases e; done)
  · cases e
    rw [rv_non] at rb
    exact .inl ⟨rb, q _ _ _ .same (rp_bl.mpr (by rw [isN_dec ra]; simp))⟩
  · cases a <;> simp only [dIsN] at e <;> try (cases e; done)
    cases e
    rw [rv_bl] at ra rb
    exact .inr ⟨_, _, ra, rb, q _ _ _ .same (rp_bl.mpr (by simp))⟩
theorem op2_notN : Op2 K ct (fun x y H Q => (y = .non ∧ Q (.bl (!decide (x = .non))) H) ∨ rNotB x y H Q) (dIsN true) := by
  intro F H a b d v w Q hs ra rb e q
  cases b <;> simp only [dIsN] at e <;> try (cases e; done)
  · cases e
    rw [rv_non] at rb
    exact .inl ⟨rb, q _ _ _ .same (rp_bl.mpr (by rw [isN_dec ra]; simp))⟩
  · cases a <;> simp only [dIsN] at e <;> try (cases e; done)
    cases e
    rw [rv_bl] at ra rb
    exact .inr ⟨_, _, ra, rb, q _ _ _ .same (rp_bl.mpr (by simp))⟩
abbrev dEq : D → D → Option D := dDat (gEq false)
abbrev dNe : D → D → Option D := dDat (gEq true)
abbrev dLt : D → D → Option D := dDat (gCmp fun p q => PySem.W.dataLt p q)
abbrev dGt : D → D → Option D := dDat (gCmp fun p q => PySem.W.dataLt q p)
abbrev dLe : D → D → Option D := dDat (gCmp fun p q => !PySem.W.dataLt q p)
abbrev dGe : D → D → Option D := dDat (gCmp fun p q => !PySem.W.dataLt p q)
abbrev dIn : D → D → Option D := dOr2 (dSg false) (dDat (gIn false))
abbrev dNin : D → D → Option D := dOr2 (dSg true) (dDat (gIn true))
/-- a comparison's rule as one thing: op, reading, function -/
structure Cmp (X : Cx) (K : Frag) (ct : Ct) (op : CmpOp) (f : D → D → Option D) : Prop where
  ex : ∃ r, OpR X (compareOp op) r ∧ Op2 K ct r f
section
variable (hu : X.A.units + 64 < cLine) (hK : K = X.K)
include hu hK
theorem c_eq : Cmp X K ct .Eq dEq := ⟨_, op_eqP hu, by rw [← hK]; exact op2_dat⟩
theorem c_ne : Cmp X K ct .NotEq dNe := ⟨_, op_neP hu, by rw [← hK]; exact op2_dat⟩
theorem c_lt : Cmp X K ct .Lt dLt := ⟨_, op_ltP hu, by rw [← hK]; exact op2_dat⟩
theorem c_gt : Cmp X K ct .Gt dGt := ⟨_, op_gtP hu, by rw [← hK]; exact op2_dat⟩
theorem c_le : Cmp X K ct .LtE dLe := ⟨_, op_leP hu, by rw [← hK]; exact op2_dat⟩
theorem c_ge : Cmp X K ct .GtE dGe := ⟨_, op_geP hu, by rw [← hK]; exact op2_dat⟩
theorem c_in : Cmp X K ct .In dIn := ⟨_, opR_or op_in_sign (op_inP hu), by rw [← hK]; exact op2_or op2_sg op2_dat⟩
theorem c_nin : Cmp X K ct .NotIn dNin := ⟨_, opR_or op_notIn_sign (op_ninP hu), by rw [← hK]; exact op2_or op2_nsg op2_dat⟩
theorem c_is : Cmp X K ct .Is (dIsN false) := ⟨_, opR_or op_isN op_isBl, op2_isN⟩
theorem c_isnot : Cmp X K ct .IsNot (dIsN true) := ⟨_, opR_or op_notN op_notBl, op2_notN⟩
end
theorem e_cmpL {op : CmpOp} {a b : Expr} {i : Nat} {mb : M D} {f : D → D → Option D} {pos : Pos} (c : Cmp X S.C.K S.C.ct op f) (ha : PE X a (tVar i)) (hb : EvR X S Γ b mb) (hm : behindInMarks op b = false := by first | exact nomark _ | rfl) : EvE X S Γ (.Compare a [op] [b] pos) (m2L f i mb) := by
  obtain ⟨r, ho, hr⟩ := c.ex
  exact pe_imp (pe_cmpR ho ha hb hm) fun _ _ _ => tr_twoL hr
theorem e_cmp {op : CmpOp} {a b : Expr} {ma mb : M D} {f : D → D → Option D} {pos : Pos} (c : Cmp X S.C.K S.C.ct op f) (ha : EvE X S Γ a ma) (hb : EvR X S Γ b mb) (hm : behindInMarks op b = false := by first | exact nomark _ | rfl) : EvE X S Γ (.Compare a [op] [b] pos) (m2 f ma mb) := by
  obtain ⟨r, ho, hr⟩ := c.ex
  exact pe_imp (pe_cmpR ho ha hb hm) fun _ _ _ => tr_two hr
end
end G
/-! G2: tests, and or not, arguments, displays, subscripts, slices. -/
namespace G
open PySem PySem.Spec PyProof.Rows L2
section
variable {X : Cx} {S : Sg} {Γ : List Kd}
/-! ### tests -/
def dTru : D → Option Bool
  | .non => some false
  | .bl b => some b
  | .int i => some (i != 0)
  | .str x => if x.length ≤ sizeLine then some ((x.length : Int) != 0) else none
  | .tup xs => some (!xs.isEmpty)
  | .lst xs => some (!xs.isEmpty)
  | .scr xs => some (!xs.isEmpty)
  | _ => none
theorem rpl_empty {K : Frag} {ct : Ct} {F : Hp} {ds : List D} {vs : List V} (h : RpL K ct F ds vs) : vs.isEmpty = ds.isEmpty := by
  have := h.length
  cases ds <;> cases vs <;> simp_all
theorem tru_of {K : Frag} {ct : Ct} {F H : Hp} {d : D} {v : V} {b : Bool} (hs : Same F H) (r : Rv K ct F H d v) (e : dTru d = some b) : TruV K v H b := by
  cases d <;> simp only [dTru] at e <;> try (cases e; done)
  · cases e; rw [rv_non] at r; subst r; rfl
  · cases e; rw [rv_bl] at r; subst r; rfl
  · cases e; rw [rv_int] at r; subst r; rfl
  · rw [rv_str] at r; subst r
    split at e
    · rename_i hz
      cases e
      exact ⟨hz, rfl⟩
    · cases e
  · cases e; rw [rv_tup] at r; obtain ⟨a, vs, rfl, h1, h2⟩ := r
    exact .inr (.inl ⟨vs, same_t hs h1, by rw [rpl_empty h2]⟩)
  · cases e; rw [rv_lst] at r; obtain ⟨a, vs, rfl, h1, h2⟩ := r
    exact .inl ⟨vs, SqL.of h1, by rw [rpl_empty h2]⟩
  · cases e; rw [rv_scr] at r; obtain ⟨a, rfl, h1⟩ := r
    exact .inl ⟨_, same_l hs h1, by simp⟩
def mT (m : M D) : M Bool := m.bind fun d => M.opt (dTru d)
/-- the truth of an expression's value -/
theorem t_tru {e : Expr} {m : M D} (h : EvR X S Γ e m) (hK : S.C.K = X.K) (he : ∀ whole, isTrue e X.env whole = (do let v ← whole; standAt e.pos; holding [v] (truthy v)) := by intro _; rfl) : EvT X S Γ e (mT m) := by
  refine pt_imp (pt_truth h he) fun σ H Q q => ?_
  refine (Tr.bind (R1 := rR S) rB_late q).mono fun v H1 ⟨d, F1, r, q⟩ => ?_
  obtain ⟨b, e1, hs, k⟩ := q.opt0
  exact ⟨b, by rw [← hK]; exact tru_of hs r e1, k b rfl⟩
def dBl : D → Option Bool
  | .bl b => some b
  | _ => none
/-- a truth itself, as a test -/
def mB (m : M D) : M Bool := m.bind fun d => M.opt (dBl d)
theorem tr_bl {m : M D} {σ : L2.St} {H : Hp} {Q : Bool → Hp → Prop} (q : Tr S Γ rB (mB m) σ H Q) : Tr S Γ (rD S) m σ H fun x H' => ∃ k, x = .bl k ∧ Q k H' := by
  refine (Tr.bind (R1 := rD S) rB_late q).mono fun v H1 ⟨d, F1, r, q⟩ => ?_
  obtain ⟨b, e1, hs, k⟩ := q.opt0
  cases d <;> simp only [dBl] at e1 <;> try (cases e1; done)
  cases e1
  exact ⟨_, rp_bl.mp r, k _ rfl⟩
/-- a comparison as a test -/
theorem t_cmp {op : CmpOp} {a b : Expr} {ma mb : M D} {f : D → D → Option D} {pos : Pos} (c : Cmp X S.C.K S.C.ct op f) (ha : EvE X S Γ a ma) (hb : EvR X S Γ b mb) (hm : behindInMarks op b = false := by first | exact nomark _ | rfl) : EvT X S Γ (.Compare a [op] [b] pos) (mB (m2 f ma mb)) := by
  obtain ⟨r, ho, hr⟩ := c.ex
  exact pt_imp (pt_cmpR ho ha hb hm) fun σ H Q q => tr_two hr (tr_bl q)
theorem t_cmpL {op : CmpOp} {a b : Expr} {i : Nat} {mb : M D} {f : D → D → Option D} {pos : Pos} (c : Cmp X S.C.K S.C.ct op f) (ha : PE X a (tVar i)) (hb : EvR X S Γ b mb) (hm : behindInMarks op b = false := by first | exact nomark _ | rfl) : EvT X S Γ (.Compare a [op] [b] pos) (mB (m2L f i mb)) := by
  obtain ⟨r, ho, hr⟩ := c.ex
  exact pt_imp (pt_cmpR ho ha hb hm) fun σ H Q q => tr_twoL hr (tr_bl q)
/-- a < b < c -/
def mCh (f g : D → D → Option D) (a b c : M D) : M D := a.bind fun x => b.bind fun y => (M.opt (f x y)).bind fun d => match d with
  | .bl k => if k = true then c.bind fun z => M.opt (g y z) else M.ret (.bl false)
  | _ => M.opt none
theorem M.bind_some {α β : Type} {a : α} {k : α → M β} : (M.opt (some a)).bind k = k a := rfl
theorem M.bind_none {α β : Type} {k : α → M β} : (M.opt none).bind k = M.opt none := rfl
theorem M.bind_ret {α β : Type} {a : α} {k : α → M β} : (M.ret a).bind k = k a := rfl
theorem TrF.nope {α γ : Type} {R : Rel α γ} {F : Hp} {σ : L2.St} {H : Hp} {Q : γ → Hp → Prop} (h : TrF S Γ R (M.opt none) F σ H Q) : False := by
  obtain ⟨a, _, e, _⟩ := h.opt
  cases e
theorem tr_chain {ma mb mc : M D} {f g : D → D → Option D} {r r' : R2} (hr : Op2 S.C.K S.C.ct r f) (hr' : Op2 S.C.K S.C.ct r' g) {σ : L2.St} {H : Hp} {Q : VK} (h : Tr S Γ (rD S) (mCh f g ma mb mc) σ H Q) :
    tChain r r' (Tr S Γ (rD S) ma) (Tr S Γ (rD S) mb) (Tr S Γ (rR S) mc) σ H Q := by
  refine (Tr.bind (R1 := rD S) rD_late h).mono fun v H1 ⟨d, F1, q, h⟩ => ⟨F1, (TrF.bind (R1 := rD S) rD_late h).mono fun w H2 ⟨e, F2, q2, x2, h⟩ => ?_⟩
  cases e1 : f d e with
  | none => rw [e1, M.bind_none] at h; exact h.nope.elim
  | some t =>
    rw [e1, M.bind_some] at h
    obtain ⟨ρ, rs, h0⟩ := id h
    refine hr F2 H2 d e t v w _ rs.sub (.of rs.sub (Rp.mono x2.f q)) (.of rs.sub q2) e1 fun u F3 H3 gw ru => ?_
    have rs3 : RS S.C Γ F3 ρ σ H3 ∧ Ext (Own Γ σ) F2 H2 F3 H3 := by
      cases gw with
      | same => exact ⟨rs, Ext.refl⟩
      | new hp => exact ⟨rs.newF hp, Ext.newF rs.sub hp⟩
    cases t with
    | bl b =>
      refine ⟨b, rp_bl.mp ru, ?_⟩
      cases b with
      | false =>
        replace h : TrF S Γ (rD S) (M.ret (.bl false)) F2 σ H2 Q := h
        obtain ⟨ρ2, _, h⟩ := h
        exact iteF (h0 _ _ _ rs3.1 rs3.2 (rp_bl.mpr rfl))
      | true =>
        replace h : TrF S Γ (rD S) (mc.bind fun z => M.opt (g e z)) F2 σ H2 Q := h
        clear h0
        refine iteT ⟨F3, ?_⟩
        have h' : TrF S Γ (rD S) (mc.bind fun z => M.opt (g e z)) F3 σ H3 Q := by
          obtain ⟨ρ, rs, h2⟩ := h
          have rs3 : RS S.C Γ F3 ρ σ H3 ∧ Ext (Own Γ σ) F2 H2 F3 H3 := by
            cases gw with
            | same => exact ⟨rs, Ext.refl⟩
            | new hp => exact ⟨rs.newF hp, Ext.newF rs.sub hp⟩
          refine ⟨ρ, rs3.1, ?_⟩
          cases e2 : (mc.bind fun z => M.opt (g e z)) ρ with
          | no => rw [e2] at h2; exact h2
          | er x ρ' => rw [e2] at h2; exact fun cl dx F' H' sm => h2 cl dx F' H' (rs3.2.f.trans sm)
          | ok d' ρ' =>
            rw [e2] at h2
            exact fun v' F' H' a1 a2 a3 => h2 v' F' H' a1 (rs3.2.trans a2) a3
        refine (TrF.bind (R1 := rR S) rD_late h').mono fun z H4 ⟨d4, F4, q4, x4, h⟩ => ?_
        obtain ⟨z', e4, hs, k⟩ := h.optG
        exact hr' F4 H4 e d4 z' w z Q hs (.of hs (Rp.mono (rs3.2.f.trans x4.f) q2)) q4 e4 k
    | _ => exact (TrF.nope h).elim
theorem e_chain {op op' : CmpOp} {a b c : Expr} {ma mb mc : M D} {f g : D → D → Option D} {pos : Pos} (h1 : Cmp X S.C.K S.C.ct op f) (h2 : Cmp X S.C.K S.C.ct op' g) (ha : EvE X S Γ a ma) (hb : EvE X S Γ b mb) (hc : EvR X S Γ c mc) (hm : lastMarks [op, op'] [b, c] = false := by with_unfolding_all rfl) :
    EvE X S Γ (.Compare a [op, op'] [b, c] pos) (mCh f g ma mb mc) := by
  obtain ⟨r, ho, hr⟩ := h1.ex
  obtain ⟨r', ho', hr'⟩ := h2.ex
  exact pe_imp (pe_chain ho ho' ha hb hc hm) fun σ H Q q => tr_chain hr hr' q
theorem t_chain {op op' : CmpOp} {a b c : Expr} {ma mb mc : M D} {f g : D → D → Option D} {pos : Pos} (h1 : Cmp X S.C.K S.C.ct op f) (h2 : Cmp X S.C.K S.C.ct op' g) (ha : EvE X S Γ a ma) (hb : EvE X S Γ b mb) (hc : EvR X S Γ c mc) (hm : lastMarks [op, op'] [b, c] = false := by with_unfolding_all rfl) :
    EvT X S Γ (.Compare a [op, op'] [b, c] pos) (mB (mCh f g ma mb mc)) := by
  obtain ⟨r, ho, hr⟩ := h1.ex
  obtain ⟨r', ho', hr'⟩ := h2.ex
  exact pt_imp (pt_chain ho ho' ha hb hc hm) fun σ H Q q => tr_chain hr hr' (tr_bl q)
/-! ### and, or, not -/
def mNot (m : M Bool) : M Bool := m.bind fun b => M.ret (!b)
def mAnd (a b : M Bool) : M Bool := a.bind fun c => if c = true then b else M.ret false
def mOr (a b : M Bool) : M Bool := a.bind fun c => if c = true then M.ret true else b
theorem TrF.ret0 {α γ : Type} {R : Rel α γ} {a : α} {F : Hp} {σ : L2.St} {H : Hp} {Q : γ → Hp → Prop} (h : TrF S Γ R (M.ret a) F σ H Q) {v : γ} (q : R H F H a v) : Q v H := by
  obtain ⟨ρ, rs, h⟩ := h
  exact h v F H rs Ext.refl q
theorem t_not {e : Expr} {m : M Bool} {pos : Pos} (h : EvT X S Γ e m) : EvT X S Γ (.UnaryOp .Not e pos) (mNot m) := pt_imp (pt_not h) fun σ H Q q => by
  refine (Tr.bind (R1 := rB) rB_late q).mono fun v H1 ⟨d, F1, r, q⟩ => ?_
  cases (show d = v from r)
  exact q.ret0 rfl
def EvW (X : Cx) (S : Sg) (Γ : List Kd) (e : Expr) (m : M Bool) : Prop := PW X e (Tr S Γ rB m)
theorem pw_imp {X : Cx} {e : Expr} {t t' : TT} (h : PW X e t) (k : ∀ σ H Q, t' σ H Q → t σ H Q) : PW X e t' := ⟨fun wh pins s σ H Q I q => h.run wh pins s σ H Q I (k _ _ _ q)⟩
theorem w_and1 {a : Expr} {m : M Bool} {pos : Pos} (h : EvT X S Γ a m) : EvW X S Γ (.BoolOp .And [a] pos) m := pw_and1 h
theorem w_or1 {a : Expr} {m : M Bool} {pos : Pos} (h : EvT X S Γ a m) : EvW X S Γ (.BoolOp .Or [a] pos) m := pw_or1 h
theorem w_and {a b : Expr} {rest : List Expr} {m n : M Bool} {pos : Pos} (h : EvT X S Γ a m) (h' : EvW X S Γ (.BoolOp .And (b :: rest) pos) n) : EvW X S Γ (.BoolOp .And (a :: b :: rest) pos) (mAnd m n) := pw_imp (pw_and h h') fun σ H Q q => by
  refine (Tr.bind (R1 := rB) rB_late q).mono fun v H1 ⟨d, F1, r, q⟩ => ?_
  cases (show d = v from r)
  cases v with
  | true => exact iteT ⟨F1, q⟩
  | false => exact iteF (q.ret0 rfl)
theorem w_or {a b : Expr} {rest : List Expr} {m n : M Bool} {pos : Pos} (h : EvT X S Γ a m) (h' : EvW X S Γ (.BoolOp .Or (b :: rest) pos) n) : EvW X S Γ (.BoolOp .Or (a :: b :: rest) pos) (mOr m n) := pw_imp (pw_or h h') fun σ H Q q => by
  refine (Tr.bind (R1 := rB) rB_late q).mono fun v H1 ⟨d, F1, r, q⟩ => ?_
  cases (show d = v from r)
  cases v with
  | true => exact iteT (q.ret0 rfl)
  | false => exact iteF ⟨F1, q⟩
theorem t_w {e : Expr} {m : M Bool} (h : EvW X S Γ e m) : EvT X S Γ e m := PW.pt h
/-- .. as values: truths, all but the last -/
def mAndV (a b : M D) : M D := a.bind fun d => match d with
  | .bl c => if c = true then b else M.ret (.bl false)
  | _ => M.opt none
def mOrV (a b : M D) : M D := a.bind fun d => match d with
  | .bl c => if c = true then M.ret (.bl true) else b
  | _ => M.opt none
def dNot : D → Option D
  | .bl b => some (.bl (!b))
  | _ => none
theorem e_one {op : BoolOp} {a : Expr} {m : M D} {pos : Pos} (h : EvE X S Γ a m) : EvE X S Γ (.BoolOp op [a] pos) m := pe_one h
theorem e_and {a b : Expr} {rest : List Expr} {m n : M D} {pos : Pos} (h : EvE X S Γ a m) (h' : EvE X S Γ (.BoolOp .And (b :: rest) pos) n) : EvE X S Γ (.BoolOp .And (a :: b :: rest) pos) (mAndV m n) := pe_imp (pe_and h h') fun σ H Q q => by
  refine (Tr.bind (R1 := rD S) rD_late q).mono fun v H1 ⟨d, F1, r, q⟩ => ?_
  cases d with
  | bl c =>
    refine ⟨c, rp_bl.mp r, ?_⟩
    cases c with
    | true => exact iteT ⟨F1, q⟩
    | false => exact iteF (q.ret0 (rp_bl.mpr rfl))
  | _ => exact q.nope.elim
theorem e_or {a b : Expr} {rest : List Expr} {m n : M D} {pos : Pos} (h : EvE X S Γ a m) (h' : EvE X S Γ (.BoolOp .Or (b :: rest) pos) n) : EvE X S Γ (.BoolOp .Or (a :: b :: rest) pos) (mOrV m n) := pe_imp (pe_or h h') fun σ H Q q => by
  refine (Tr.bind (R1 := rD S) rD_late q).mono fun v H1 ⟨d, F1, r, q⟩ => ?_
  cases d with
  | bl c =>
    refine ⟨c, rp_bl.mp r, ?_⟩
    cases c with
    | true => exact iteT (q.ret0 (rp_bl.mpr rfl))
    | false => exact iteF ⟨F1, q⟩
  | _ => exact q.nope.elim
theorem e_not {a : Expr} {m : M D} {pos : Pos} (h : EvE X S Γ a m) : EvE X S Γ (.UnaryOp .Not a pos) (m1 dNot m) := pe_imp (pe_not h) fun σ H Q q => by
  refine (Tr.bind (R1 := rD S) rD_late q).mono fun v H1 ⟨d, F1, r, q⟩ => ?_
  obtain ⟨z, e1, hs, k⟩ := q.opt0
  cases d <;> simp only [dNot] at e1 <;> try (cases e1; done)
  cases e1
  exact ⟨_, rp_bl.mp r, k _ (rp_bl.mpr rfl)⟩
/-- a if c else b -/
def mIf (c : M Bool) (a b : M D) : M D := c.bind fun k => if k = true then a else b
theorem e_if {c a b : Expr} {mc : M Bool} {ma mb : M D} {pos : Pos} (hc : EvT X S Γ c mc) (ha : EvE X S Γ a ma) (hb : EvE X S Γ b mb) : EvE X S Γ (.IfExp c a b pos) (mIf mc ma mb) := pe_imp (pe_ifExp hc ha hb) fun σ H Q q => by
  refine (Tr.bind (R1 := rB) rD_late q).mono fun v H1 ⟨d, F1, r, q⟩ => ?_
  cases (show d = v from r)
  cases v with
  | true => exact iteT ⟨F1, q⟩
  | false => exact iteF ⟨F1, q⟩
/-! ### arguments, displays -/
def mNil : M (List D) := M.ret []
def mCons (a : M D) (r : M (List D)) : M (List D) := a.bind fun d => r.bind fun ds => M.ret (d :: ds)
theorem a_nil : EvA X S Γ [] mNil := pa_imp pa_nil fun σ H Q ⟨F, h⟩ => h.ret0 (rpl_nil.mpr rfl)
theorem a_cons {e : Expr} {es : List Expr} {m : M D} {n : M (List D)} (h : EvE X S Γ e m) (h' : EvA X S Γ es n) (hs : starEach (e :: es) X.env = (false, eval e X.env) :: starEach es X.env := by rfl) : EvA X S Γ (e :: es) (mCons m n) := pa_imp (pa_cons h h' hs) fun σ H Q q => by
  refine (Tr.bind (R1 := rD S) rL_late q).mono fun v H1 ⟨d, F1, r, q⟩ => ⟨F1, (TrF.bind (R1 := rL S) rL_late q).mono fun w H2 ⟨e, F2, q2, x2, h⟩ => ?_⟩
  exact h.ret0 (rpl_cons.mpr ⟨v, w, rfl, Rp.mono x2.f r, q2⟩)
/-- arguments that may be read, the last of them somebody's own -/
theorem a_oneR {e : Expr} {m : M D} (h : EvR X S Γ e m) (hs : starEach [e] X.env = (false, eval e X.env) :: starEach [] X.env := by rfl) : EvAR X S Γ [e] (mCons m mNil) := pa_imp (pa_cons h pa_nil hs) fun σ H Q q => by
  refine (Tr.bind (R1 := rR S) rLR_late q).mono fun v H1 ⟨d, F1, r, q⟩ => ?_
  exact TrF.ret0 (R := rLR S) (a := [d]) q ⟨v, [], rfl, r, rfl⟩
theorem a_consR {e : Expr} {es : List Expr} {m : M D} {n : M (List D)} (h : EvE X S Γ e m) (h' : EvAR X S Γ es n) (hs : starEach (e :: es) X.env = (false, eval e X.env) :: starEach es X.env := by rfl) : EvAR X S Γ (e :: es) (mCons m n) := pa_imp (pa_cons h h' hs) fun σ H Q q => by
  refine (Tr.bind (R1 := rD S) rLR_late q).mono fun v H1 ⟨d, F1, r, q⟩ => ⟨F1, (TrF.bind (R1 := rLR S) rLR_late q).mono fun w H2 ⟨e, F2, q2, x2, h⟩ => ?_⟩
  obtain ⟨ρ, rs, h'⟩ := id h
  exact h.ret0 ⟨v, w, rfl, .of rs.sub (Rp.mono x2.f r), q2⟩
theorem a_r {es : List Expr} {n : M (List D)} (h : EvA X S Γ es n) : EvAR X S Γ es n := pa_imp h fun σ H Q ⟨F, ρ, rs, q⟩ => by
  refine ⟨F, ρ, rs, ?_⟩
  cases e : n ρ with
  | no => rw [e] at q; exact q
  | er x ρ' => rw [e] at q; exact q
  | ok d ρ' =>
    rw [e] at q
    exact fun v F1 H1 r1 x1 z => q v F1 H1 r1 x1 (RvL.of r1.sub z)
/-- a new tuple, a new list of values at hand -/
def mTup (ms : M (List D)) : M D := ms.bind fun ds => M.opt (if ds.length ≤ sizeLine then some (.tup ds) else none)
def mLst (ms : M (List D)) : M D := ms.bind fun ds => M.opt (if ds.length ≤ sizeLine then some (.lst ds) else none)
theorem e_tup {es : List Expr} {ms : M (List D)} {x1 pos} (h : EvA X S Γ es ms) : EvE X S Γ (.Tuple es x1 pos) (mTup ms) := pe_imp (pe_tup h) fun σ H Q q => by
  refine (Tr.bind (R1 := rL S) rD_late q).mono fun vs H1 ⟨ds, F1, r, q⟩ => ?_
  obtain ⟨z, e1, hs, k⟩ := q.opt1
  split at e1
  · rename_i hz
    cases e1
    have r : RpL S.C.K S.C.ct F1 ds vs := r
    refine ⟨by rw [← r.length]; exact hz, fun p hp => k _ p _ hp (rp_tup.mpr ⟨p, vs, rfl, SqT.of upd_same, r.mono (same_updF (hs.free hp))⟩)⟩
  · cases e1
theorem e_lst {es : List Expr} {ms : M (List D)} {pos} (h : EvA X S Γ es ms) : EvE X S Γ (.List es pos) (mLst ms) := pe_imp (pe_lst h) fun σ H Q q => by
  refine (Tr.bind (R1 := rL S) rD_late q).mono fun vs H1 ⟨ds, F1, r, q⟩ => ?_
  obtain ⟨z, e1, hs, k⟩ := q.opt1
  split at e1
  · rename_i hz
    cases e1
    have r : RpL S.C.K S.C.ct F1 ds vs := r
    refine ⟨by rw [← r.length]; exact hz, fun p hp => k _ p _ hp (rp_lst.mpr ⟨p, vs, rfl, upd_same, r.mono (same_updF (hs.free hp))⟩)⟩
  · cases e1
theorem o_lst {es : List Expr} {ms : M (List D)} {pos} (h : EvA X S Γ es ms) : EvO X S Γ (.List es pos) (mLst ms) := pe_imp (pe_lst h) fun σ H Q ⟨F, q⟩ => by
  refine ⟨F, (TrF.bind (R1 := rL S) rO_late q).mono fun vs H1 ⟨ds, F1, r, x1, q⟩ => ?_⟩
  obtain ⟨z, e1, hs, k⟩ := q.opt2
  split at e1
  · rename_i hz
    cases e1
    have r : RpL S.C.K S.C.ct F1 ds vs := r
    refine ⟨by rw [← r.length]; exact hz, fun p hp => k _ p _ hp ⟨p, _, rfl, hp, hs.free hp, upd_same, .lst r⟩⟩
  · cases e1
/-- an object of one's own, frozen at once -/
theorem TrF.frz {m : M D} {F : Hp} {σ : L2.St} {H : Hp} {Q : VK} (h : TrF S Γ (rD S) m F σ H Q) : TrF S Γ (rO S) m F σ H Q := by
  obtain ⟨ρ, rs, h⟩ := h
  refine ⟨ρ, rs, ?_⟩
  cases e : m ρ with
  | no => rw [e] at h; exact h
  | er x ρ' => rw [e] at h; exact h
  | ok d ρ' =>
    rw [e] at h
    rintro v F1 H1 r1 x1 ⟨a, o, rfl, h1, h2, h3, h4⟩
    have sm : Same F1 (upd F1 a o) := same_updF h2
    refine h (.ref a) (upd F1 a o) H1 ⟨same_frz r1.sub h3, ?_, r1.ln, r1.lg, r1.no, fun i d' k1 k2 => ?_, fun i d' k k1 k2 k3 => ?_, r1.dj, r1.hio⟩ ⟨x1.f.trans sm, fun b hb => ?_, x1.h, x1.n⟩ (h4.frz h2)
    · have z : S.C.H0 a = none := by
        cases e0 : S.C.H0 a with
        | none => rfl
        | some q => exact absurd h1 (rs.ext.n a (by rw [e0]; simp))
      exact r1.ext.frz z h2
    · obtain ⟨u, q1, q2⟩ := r1.fz i d' k1 k2
      exact ⟨u, q1, q2.mono sm⟩
    · obtain ⟨b, ob, q1, q2, q3, q4, q5, q6⟩ := r1.ow i d' k k1 k2 k3
      have nb : b ≠ a := fun zz => by
        have w := rs.own_some (c := b) ⟨i, by cases k with
          | fz => exact absurd rfl k2
          | ow => exact .inl k1
          | io => exact .inr k1, q1⟩
        obtain ⟨_, o', w⟩ := w
        rw [zz, h1] at w
        cases w
      exact ⟨b, ob, q1, by rw [upd_ne nb]; exact q2, q3, q4.mono sm, q5, q6⟩
    · by_cases z : b = a
      · subst z; exact .inr h1
      · rw [upd_ne z] at hb; exact x1.g b hb
theorem e_o {e : Expr} {m : M D} (h : EvO X S Γ e m) : EvE X S Γ e m := pe_imp h fun σ H Q ⟨F, q⟩ => ⟨F, q.frz⟩
end
end G
namespace G
open PySem PySem.Spec PyProof.Rows L2
section
variable {X : Cx} {S : Sg} {Γ : List Kd} {K : Frag} {ct : Ct}
/-! ### subscripts -/
def dIx : D → D → Option D
  | .lst xs, .int i => atI xs i
  | .tup xs, .int i => atI xs i
  | .scr ns, .int i => (atI ns i).map .int
  | .str x, .int i => if x.length ≤ sizeLine then (atI x.cps.toList i).map fun c => .str ⟨#[c]⟩ else none
  | _, _ => none
theorem rpl_at {F : Hp} {ds : List D} {vs : List V} {d : D} {i : Int} (h : RpL K ct F ds vs) (e : atI ds i = some d) : ∃ v, atI vs i = some v ∧ Rp K ct F d v := by
  unfold atI at e ⊢
  rw [← h.length]
  cases q : ixN ds.length i with
  | none => rw [q] at e; cases e
  | some j =>
    rw [q] at e
    exact h.get e
theorem atI_map {α β : Type} {xs : List α} {f : α → β} {i : Int} : atI (xs.map f) i = (atI xs i).map f := by
  unfold atI
  rw [List.length_map]
  cases ixN xs.length i with
  | none => rfl
  | some j => simp
theorem op2_ix : Op2 K ct (rIx K) dIx := by
  intro F H a b d v w Q hs ra rb e q
  cases b <;> cases a <;> simp only [dIx] at e <;> try (cases e; done)
  · rw [rv_int] at rb; rw [rv_str] at ra
    subst ra rb
    split at e
    · rename_i hz
      obtain ⟨c, e1, e2⟩ := Option.map_eq_some_iff.mp e
      subst e2
      exact .inr (.inr ⟨_, _, c, rfl, rfl, hz, e1, q _ _ _ .same (rp_str.mpr rfl)⟩)
    · cases e
  · rw [rv_int] at rb; rw [rv_tup] at ra
    subst rb
    obtain ⟨p, vs, rfl, h1, h2⟩ := ra
    obtain ⟨u, e1, e2⟩ := rpl_at h2 e
    exact .inr (.inl ⟨p, vs, _, u, rfl, rfl, same_t hs h1, e1, q _ _ _ .same e2⟩)
  · rw [rv_int] at rb; rw [rv_lst] at ra
    subst rb
    obtain ⟨p, vs, rfl, h1, h2⟩ := ra
    obtain ⟨u, e1, e2⟩ := rpl_at h2 e
    exact .inl ⟨p, vs, _, u, rfl, rfl, SqL.of h1, e1, q _ _ _ .same e2⟩
  · rw [rv_int] at rb; rw [rv_scr] at ra
    subst rb
    obtain ⟨p, rfl, h1⟩ := ra
    obtain ⟨n, e1, e2⟩ := Option.map_eq_some_iff.mp e
    subst e2
    exact .inl ⟨p, _, _, _, rfl, rfl, same_l hs h1, by rw [atI_map, e1]; rfl, q _ _ _ .same (rp_int.mpr rfl)⟩
theorem e_ix {a b : Expr} {ma mb : M D} {pos : Pos} (ha : EvE X S Γ a ma) (hb : EvE X S Γ b mb) (hK : S.C.K = X.K := by rfl) (hs : PlainIx b := by exact fun _ _ => rfl) : EvE X S Γ (.Subscript a b pos) (m2 dIx ma mb) :=
  pe_imp (pe_ix ix_seq ha (e_r hb) hs) fun _ _ _ => tr_two (by rw [← hK]; exact op2_ix)
theorem e_ixL {a b : Expr} {i : Nat} {mb : M D} {pos : Pos} (ha : PE X a (tVar i)) (hb : EvE X S Γ b mb) (hK : S.C.K = X.K := by rfl) (hs : PlainIx b := by exact fun _ _ => rfl) : EvE X S Γ (.Subscript a b pos) (m2L dIx i mb) :=
  pe_imp (pe_ix ix_seq ha (e_r hb) hs) fun _ _ _ => tr_twoL (by rw [← hK]; exact op2_ix)
/-! ### slices -/
def rP : Rel (Option Int) (Option Int) := fun _ _ _ a b => a = b
theorem rP_late : rP.Late := fun _ _ _ _ _ _ _ h => h
def EvP (X : Cx) (S : Sg) (Γ : List Kd) (lo : Option Expr) (m : M (Option Int)) : Prop := PO X lo (Tr S Γ rP m)
def dI : D → Option (Option Int)
  | .int i => some (some i)
  | _ => none
def mPt (m : M D) : M (Option Int) := m.bind fun d => M.opt (dI d)
theorem p_none : EvP X S Γ none (M.ret none) := ⟨fun pins s σ H Q I ⟨F, h⟩ => po_none.run pins s σ H Q I (h.ret0 rfl)⟩
theorem p_some {e : Expr} {m : M D} (h : EvE X S Γ e m) : EvP X S Γ (some e) (mPt m) := ⟨fun pins s σ H Q I q => (po_some h).run pins s σ H Q I (by
  refine (Tr.bind (R1 := rD S) rP_late q).mono fun v H1 ⟨d, F1, r, q⟩ => ?_
  obtain ⟨b, e1, hs, k⟩ := q.opt0
  cases d <;> simp only [dI] at e1 <;> try (cases e1; done)
  cases e1
  exact ⟨_, rp_int.mp r, k _ rfl⟩)⟩
/-- the part of a list -/
def cutL {α : Type} (xs : List α) (lo hi : Option Int) : List α := (xs.drop (HT.sIx xs.length 0 lo)).take (HT.sIx xs.length xs.length hi - HT.sIx xs.length 0 lo)
theorem cut_rpl {F : Hp} {ds : List D} {vs : List V} (h : RpL K ct F ds vs) (lo hi : Option Int) : RpL K ct F (cutL ds lo hi) (cutV vs lo hi) := by
  unfold cutL cutV
  rw [h.length]
  exact (h.drop _).take _
theorem cut_map {α β : Type} {xs : List α} {f : α → β} {lo hi : Option Int} : cutL (xs.map f) lo hi = (cutL xs lo hi).map f := by
  unfold cutL
  rw [List.length_map, List.map_take, List.map_drop]
def dSl (d : D) (lo hi : Option Int) : Option D := match d with
  | .lst xs => some (.lst (cutL xs lo hi))
  | .scr ns => some (.lst ((cutL ns lo hi).map .int))
  | .tup xs => some (.tup (cutL xs lo hi))
  | .str x => if x.length ≤ sizeLine then some (.str (cutS x lo hi)) else none
  | _ => none
def rSlX (K : Frag) : V → Option Int → Option Int → Hp → VK → Prop := fun x lo hi H Q => (rSlL K x lo hi H Q ∨ rSlA K x lo hi H Q) ∨ rSlS x lo hi H Q
theorem sl_x : SlR X (rSlX X.K) := (sl_list.or sl_tupA).or sl_str
theorem sl_ok {F H : Hp} {a d : D} {v : V} {lo hi : Option Int} {Q : VK} (hs : Same F H) (ra : Rv K ct F H a v) (e : dSl a lo hi = some d) (q : ∀ u F' H', Gw F H F' H' → Rp K ct F' d u → Q u H') : rSlX K v lo hi H Q := by
  cases a <;> simp only [dSl] at e <;> try (cases e; done)
  · rw [rv_str] at ra
    subst ra
    split at e
    · rename_i hz
      cases e
      exact .inr ⟨_, rfl, hz, q _ _ _ .same (rp_str.mpr rfl)⟩
    · cases e
  · rw [rv_tup] at ra
    cases e
    obtain ⟨p, vs, rfl, h1, h2⟩ := ra
    refine .inl (.inr ⟨p, vs, rfl, same_t hs h1, fun hw => ?_, fun _ l hl => ?_⟩)
    · refine q _ _ _ .same (rp_tup.mpr ⟨p, vs, rfl, h1, ?_⟩)
      rename_i xs
      have e2 : cutL xs lo hi = xs := by
        unfold cutL
        rw [h2.length, hw.1, hw.2, Nat.sub_zero, List.drop_zero, ← h2.length, List.take_length]
      rw [e2]
      exact h2
    · exact q _ _ _ (.new (o := .tup (cutV vs lo hi)) hl) (rp_tup.mpr ⟨l, _, rfl, SqT.of upd_same, (cut_rpl h2 lo hi).mono (same_updF (hs.free hl))⟩)
  · rw [rv_lst] at ra
    cases e
    obtain ⟨p, vs, rfl, h1, h2⟩ := ra
    exact .inl (.inl ⟨p, vs, rfl, SqL.of h1, fun l hl => q _ _ _ (.new (o := .lst (cutV vs lo hi)) hl) (rp_lst.mpr ⟨l, _, rfl, upd_same, (cut_rpl h2 lo hi).mono (same_updF (hs.free hl))⟩)⟩)
  · rw [rv_scr] at ra
    cases e
    obtain ⟨p, rfl, h1⟩ := ra
    refine .inl (.inl ⟨p, _, rfl, same_l hs h1, fun l hl => q _ _ _ (.new (o := .lst (cutV _ lo hi)) hl) (rp_lst.mpr ⟨l, _, rfl, upd_same, ?_⟩)⟩)
    rename_i ns
    have : cutV (List.map V.int ns) lo hi = (cutL ns lo hi).map V.int := cut_map (f := V.int)
    rw [this]
    exact rpl_ints
def mSl (a : M D) (lo hi : M (Option Int)) : M D := a.bind fun x => lo.bind fun l => hi.bind fun h => M.opt (dSl x l h)
theorem e_sl {e : Expr} {m : M D} {lo hi : Option Expr} {ml mh : M (Option Int)} {pos p2 : Pos} (he : EvE X S Γ e m) (hl : EvP X S Γ lo ml) (hh : EvP X S Γ hi mh) (hK : S.C.K = X.K := by rfl) : EvE X S Γ (.Subscript e (.Slice lo hi none p2) pos) (mSl m ml mh) :=
  pe_imp (pe_slice sl_x he hl hh) fun σ H Q q => by
    refine (Tr.bind (R1 := rD S) rD_late q).mono fun v H1 ⟨d, F1, r, q⟩ => ⟨F1, (TrF.bind (R1 := rP) rD_late q).mono fun l H2 ⟨l', F2, el, x2, q⟩ => ⟨F2, (TrF.bind (R1 := rP) rD_late q).mono fun h H3 ⟨h', F3, eh, x3, q⟩ => ?_⟩⟩
    cases (show l' = l from el)
    cases (show h' = h from eh)
    obtain ⟨z, e1, hs, k⟩ := q.optG
    rw [← hK]
    exact sl_ok hs (.of hs (Rp.mono (x2.f.trans x3.f) r)) e1 k
def mSlL (i : Nat) (lo hi : M (Option Int)) : M D := (mV i).bind fun _ => lo.bind fun l => hi.bind fun h => (mV i).bind fun x => M.opt (dSl x l h)
theorem e_slL {e : Expr} {i : Nat} {lo hi : Option Expr} {ml mh : M (Option Int)} {pos p2 : Pos} (he : PE X e (tVar i)) (hl : EvP X S Γ lo ml) (hh : EvP X S Γ hi mh) (hK : S.C.K = X.K := by rfl) : EvE X S Γ (.Subscript e (.Slice lo hi none p2) pos) (mSlL i ml mh) :=
  pe_imp (pe_slice sl_x he hl hh) fun σ H Q ⟨F, q⟩ => by
    obtain ⟨_, v, hv, _, q⟩ := q.slot
    refine ⟨v, hv, F, (TrF.bind (R1 := rP) rD_late q).mono fun l H2 ⟨l', F2, el, x2, q⟩ => ⟨F2, (TrF.bind (R1 := rP) rD_late q).mono fun h H3 ⟨h', F3, eh, x3, q⟩ => ?_⟩⟩
    cases (show l' = l from el)
    cases (show h' = h from eh)
    obtain ⟨d, u, hu, hr2, q⟩ := q.slot
    rw [hv] at hu
    cases hu
    obtain ⟨z, e1, hs, k⟩ := q.optG
    rw [← hK]
    exact sl_ok hs hr2 e1 k
end
end G
namespace G
open PySem PySem.Spec PyProof.Rows L2
section
variable {X : Cx} {S : Sg} {Γ : List Kd} {K : Frag} {ct : Ct}
/-! ### built-in functions -/
def CallOk (K : Frag) (ct : Ct) (r : List V → Hp → VK → Prop) (f : List D → Option D) : Prop := ∀ (F H : Hp) (ds : List D) (d : D) (vs : List V) (Q : VK), Same F H → RvL K ct F H ds vs → f ds = some d → (∀ u F' H', Gw F H F' H' → Rp K ct F' d u → Q u H') → r vs H Q
theorem callR_or {f : Value} {r r' : List V → Hp → VK → Prop} (h : CallR X f r) (h' : CallR X f r') : CallR X f (fun vs H Q => r vs H Q ∨ r' vs H Q) := fun pins s σ H xs us Q I rx q =>
  q.elim (fun z => h pins s σ H xs us Q I rx z) fun z => h' pins s σ H xs us Q I rx z
/-- a built-in's rule as one thing -/
structure Bi (X : Cx) (K : Frag) (ct : Ct) (fv : Value) (f : List D → Option D) : Prop where
  ex : ∃ r, CallR X fv r ∧ CallOk K ct r f
def dOr1 (f g : List D → Option D) (ds : List D) : Option D := match f ds with
  | some d => some d
  | none => g ds
theorem Bi.or {fv : Value} {f g : List D → Option D} (h : Bi X K ct fv f) (h' : Bi X K ct fv g) : Bi X K ct fv (dOr1 f g) := by
  obtain ⟨r, h1, h2⟩ := h.ex
  obtain ⟨r', h1', h2'⟩ := h'.ex
  refine ⟨_, callR_or h1 h1', fun F H ds d vs Q hs rs e q => ?_⟩
  unfold dOr1 at e
  split at e
  · rename_i d' e1
    cases e
    exact .inl (h2 F H ds _ vs Q hs rs e1 q)
  · exact .inr (h2' F H ds d vs Q hs rs e q)
def mA (f : List D → Option D) (ms : M (List D)) : M D := ms.bind fun ds => M.opt (f ds)
theorem tr_call {f : List D → Option D} {r : List V → Hp → VK → Prop} {ms : M (List D)} (hr : CallOk S.C.K S.C.ct r f) {σ : L2.St} {H : Hp} {Q : VK} (q : Tr S Γ (rD S) (mA f ms) σ H Q) : tCB r (Tr S Γ (rLR S) ms) σ H Q := by
  refine (Tr.bind (R1 := rLR S) rD_late q).mono fun vs H1 ⟨ds, F1, r, q⟩ => ?_
  obtain ⟨z, e1, hs, k⟩ := q.optG
  exact hr F1 H1 ds z vs Q hs r e1 k
theorem e_cb {id : String} {x : Str} {p pos : Pos} {e : Expr} {es : List Expr} {ms : M (List D)} {f : List D → Option D} (b : Bi X S.C.K S.C.ct (.builtin id) f) (ha : EvAR X S Γ (e :: es) ms) (hm : X.mg x = none) (hv : bootBuiltins x = some (.builtin id) := by decide +kernel) (hg : Gl X x := by rfl) (hn : x ≠ "__name__" := by decide) (hdb : (x == ("__debug__" : Str)) = false := by decide)
    (he : starEach (e :: es) X.env = (false, eval e X.env) :: starEach es X.env := by rfl) (hpl : (backTo pos (starEach es X.env)).any (·.1) = false := by rfl) : EvE X S Γ (.Call (.Name x p) (e :: es) [] pos) (mA f ms) := by
  obtain ⟨r, h1, h2⟩ := b.ex
  exact pe_imp (pe_callB h1 hg hm hv ha hn hdb he hpl) fun _ _ _ => tr_call h2
theorem e_ct {T : String} {x : Str} {p pos : Pos} {e : Expr} {es : List Expr} {ms : M (List D)} {f : List D → Option D} (b : Bi X S.C.K S.C.ct (.type T) f) (ha : EvAR X S Γ (e :: es) ms) (hm : X.mg x = none) (hv : bootBuiltins x = some (.type T) := by decide +kernel) (hg : Gl X x := by rfl) (hn : x ≠ "__name__" := by decide) (hdb : (x == ("__debug__" : Str)) = false := by decide)
    (he : starEach (e :: es) X.env = (false, eval e X.env) :: starEach es X.env := by rfl) (hpl : (backTo pos (starEach es X.env)).any (·.1) = false := by rfl) : EvE X S Γ (.Call (.Name x p) (e :: es) [] pos) (mA f ms) := by
  obtain ⟨r, h1, h2⟩ := b.ex
  exact pe_imp (pe_callTy h1 hg hm hv ha hn hdb he hpl) fun _ _ _ => tr_call h2
theorem rvl_one {F H : Hp} {d : D} {vs : List V} (h : RvL K ct F H [d] vs) : ∃ v, vs = [v] ∧ Rv K ct F H d v := by
  obtain ⟨v, r, rfl, h1, h2⟩ := h
  cases (show r = [] from h2)
  exact ⟨v, rfl, h1⟩
theorem rvl_two {F H : Hp} {d e : D} {vs : List V} (h : RvL K ct F H [d, e] vs) : ∃ v w, vs = [v, w] ∧ Rv K ct F H d v ∧ Rv K ct F H e w := by
  obtain ⟨v, r, rfl, h1, h2⟩ := h
  obtain ⟨w, rfl, h3⟩ := rvl_one h2
  exact ⟨v, w, rfl, h1, h3⟩
/-- len -/
def dLen : List D → Option D
  | [.lst xs] => some (.int xs.length)
  | [.tup xs] => some (.int xs.length)
  | [.scr xs] => some (.int xs.length)
  | [.str x] => if x.length ≤ sizeLine then some (.int x.length) else none
  | _ => none
theorem b_len (hK : K = X.K) : Bi X K ct (.builtin "len") dLen := ⟨_, call_len, by
  subst hK
  intro F H ds d vs Q hs r e q
  unfold dLen at e
  split at e
  · replace r := rvl_one r
    obtain ⟨v, rfl, r⟩ := r
    rw [rv_lst] at r
    obtain ⟨a, vs, rfl, h1, h2⟩ := r
    cases e
    exact ⟨_, vs.length, rfl, .inl ⟨vs, SqL.of h1, rfl⟩, q _ _ _ .same (rp_int.mpr (by rw [h2.length]))⟩
  · replace r := rvl_one r
    obtain ⟨v, rfl, r⟩ := r
    rw [rv_tup] at r
    obtain ⟨a, vs, rfl, h1, h2⟩ := r
    cases e
    exact ⟨_, vs.length, rfl, .inr ⟨vs, same_t hs h1, rfl⟩, q _ _ _ .same (rp_int.mpr (by rw [h2.length]))⟩
  · replace r := rvl_one r
    obtain ⟨v, rfl, r⟩ := r
    rw [rv_scr] at r
    obtain ⟨a, rfl, h1⟩ := r
    cases e
    exact ⟨_, _, rfl, .inl ⟨_, same_l hs h1, rfl⟩, q _ _ _ .same (rp_int.mpr (by simp))⟩
  · replace r := rvl_one r
    obtain ⟨v, rfl, r⟩ := r
    rw [rv_str] at r
    subst r
    split at e
    · rename_i hz
      cases e
      exact ⟨_, _, rfl, ⟨hz, rfl⟩, q _ _ _ .same (rp_int.mpr rfl)⟩
    · cases e
  · cases e⟩
def dAbs : List D → Option D
  | [.int i] => some (.int (if i < 0 then -i else i))
  | _ => none
theorem b_abs : Bi X K ct (.builtin "abs") dAbs := ⟨_, call_abs, by
  intro F H ds d vs Q hs r e q
  unfold dAbs at e
  split at e
  · replace r := rvl_one r
    obtain ⟨v, rfl, r⟩ := r
    rw [rv_int] at r
    cases e
    exact ⟨_, by rw [r], q _ _ _ .same (rp_int.mpr rfl)⟩
  · cases e⟩
def dMax2 : List D → Option D
  | [.int i, .int j] => some (.int (if j > i then j else i))
  | _ => none
def dMin2 : List D → Option D
  | [.int i, .int j] => some (.int (if j < i then j else i))
  | _ => none
theorem b_max2 (hc : X.calm = true) : Bi X K ct (.builtin "max") dMax2 := ⟨_, call_max2 hc, by
  intro F H ds d vs Q hs r e q
  unfold dMax2 at e
  split at e
  · replace r := rvl_two r
    obtain ⟨v, w, rfl, r, r'⟩ := r
    rw [rv_int] at r r'
    cases e
    exact ⟨_, _, by rw [r, r'], q _ _ _ .same (rp_int.mpr rfl)⟩
  · cases e⟩
theorem b_min2 (hc : X.calm = true) : Bi X K ct (.builtin "min") dMin2 := ⟨_, call_min2 hc, by
  intro F H ds d vs Q hs r e q
  unfold dMin2 at e
  split at e
  · replace r := rvl_two r
    obtain ⟨v, w, rfl, r, r'⟩ := r
    rw [rv_int] at r r'
    cases e
    exact ⟨_, _, by rw [r, r'], q _ _ _ .same (rp_int.mpr rfl)⟩
  · cases e⟩
end
end G
namespace G
open PySem PySem.Spec PyProof.Rows L2
section
variable {X : Cx} {S : Sg} {Γ : List Kd} {K : Frag} {ct : Ct}
/-- lists of one kind -/
def dInts : List D → Option (List Int)
  | [] => some []
  | .int i :: r => (dInts r).map (i :: ·)
  | _ => none
theorem dInts_eq : ∀ {ds : List D} {ns : List Int}, dInts ds = some ns → ds = ns.map .int
  | [], ns, e => by simp only [dInts] at e; cases e; rfl
  | d :: ds, ns, e => by
    cases d <;> simp only [dInts] at e <;> try (cases e; done)
    obtain ⟨m, e1, e2⟩ := Option.map_eq_some_iff.mp e
    subst e2
    rw [dInts_eq e1]; rfl
theorem dInts_map : ∀ {ns : List Int}, dInts (ns.map .int) = some ns
  | [] => rfl
  | n :: ns => by simp [dInts, dInts_map]
theorem rpl_ints_inv {F : Hp} : ∀ {ns : List Int} {vs : List V}, RpL K ct F (ns.map D.int) vs → vs = ns.map V.int
  | [], vs, h => by simpa using rpl_nil.mp h
  | n :: ns, vs, h => by
    obtain ⟨v, r, rfl, h1, h2⟩ := rpl_cons.mp h
    rw [rp_int.mp h1, rpl_ints_inv h2]; rfl
def dStrs : List D → Option (List Str)
  | [] => some []
  | .str i :: r => (dStrs r).map (i :: ·)
  | _ => none
theorem dStrs_eq : ∀ {ds : List D} {ns : List Str}, dStrs ds = some ns → ds = ns.map .str
  | [], ns, e => by simp only [dStrs] at e; cases e; rfl
  | d :: ds, ns, e => by
    cases d <;> simp only [dStrs] at e <;> try (cases e; done)
    obtain ⟨m, e1, e2⟩ := Option.map_eq_some_iff.mp e
    subst e2
    rw [dStrs_eq e1]; rfl
theorem dStrs_map : ∀ {ns : List Str}, dStrs (ns.map .str) = some ns
  | [] => rfl
  | n :: ns => by simp [dStrs, dStrs_map]
theorem rpl_strs_inv {F : Hp} : ∀ {ns : List Str} {vs : List V}, RpL K ct F (ns.map D.str) vs → vs = ns.map V.str
  | [], vs, h => by simpa using rpl_nil.mp h
  | n :: ns, vs, h => by
    obtain ⟨v, r, rfl, h1, h2⟩ := rpl_cons.mp h
    rw [rp_str.mp h1, rpl_strs_inv h2]; rfl
def dBls : List D → Option (List Bool)
  | [] => some []
  | .bl i :: r => (dBls r).map (i :: ·)
  | _ => none
theorem dBls_eq : ∀ {ds : List D} {ns : List Bool}, dBls ds = some ns → ds = ns.map .bl
  | [], ns, e => by simp only [dBls] at e; cases e; rfl
  | d :: ds, ns, e => by
    cases d <;> simp only [dBls] at e <;> try (cases e; done)
    obtain ⟨m, e1, e2⟩ := Option.map_eq_some_iff.mp e
    subst e2
    rw [dBls_eq e1]; rfl
theorem dBls_map : ∀ {ns : List Bool}, dBls (ns.map .bl) = some ns
  | [] => rfl
  | n :: ns => by simp [dBls, dBls_map]
theorem rpl_bls_inv {F : Hp} : ∀ {ns : List Bool} {vs : List V}, RpL K ct F (ns.map D.bl) vs → vs = ns.map V.bl
  | [], vs, h => by simpa using rpl_nil.mp h
  | n :: ns, vs, h => by
    obtain ⟨v, r, rfl, h1, h2⟩ := rpl_cons.mp h
    rw [rp_bl.mp h1, rpl_bls_inv h2]; rfl
def dAll : List D → Option D
  | [.lst xs] => (dBls xs).map fun bs => .bl (bs.all id)
  | _ => none
def dAny : List D → Option D
  | [.lst xs] => (dBls xs).map fun bs => .bl (bs.any id)
  | _ => none
def dSum : List D → Option D
  | [.lst xs] => (dInts xs).map fun bs => .int bs.sum
  | _ => none
theorem b_all (hK : K = X.K) (hc : X.calm = true) : Bi X K ct (.builtin "all") dAll := ⟨_, cr_all hc, by
  subst hK
  intro F H ds d vs Q hs r e q
  unfold dAll at e
  split at e
  · replace r := rvl_one r
    obtain ⟨v, rfl, r⟩ := r
    rw [rv_lst] at r
    obtain ⟨a, vs, rfl, h1, h2⟩ := r
    obtain ⟨bs, e1, e2⟩ := Option.map_eq_some_iff.mp e
    subst e2
    rw [dBls_eq e1] at h2
    rw [rpl_bls_inv h2] at h1
    exact ⟨a, bs, rfl, SqL.of h1, q _ _ _ .same (rp_bl.mpr rfl)⟩
  · cases e⟩
theorem b_any (hK : K = X.K) (hc : X.calm = true) : Bi X K ct (.builtin "any") dAny := ⟨_, cr_any hc, by
  subst hK
  intro F H ds d vs Q hs r e q
  unfold dAny at e
  split at e
  · replace r := rvl_one r
    obtain ⟨v, rfl, r⟩ := r
    rw [rv_lst] at r
    obtain ⟨a, vs, rfl, h1, h2⟩ := r
    obtain ⟨bs, e1, e2⟩ := Option.map_eq_some_iff.mp e
    subst e2
    rw [dBls_eq e1] at h2
    rw [rpl_bls_inv h2] at h1
    exact ⟨a, bs, rfl, SqL.of h1, q _ _ _ .same (rp_bl.mpr rfl)⟩
  · cases e⟩
theorem b_sum (hK : K = X.K) (hc : X.calm = true) : Bi X K ct (.builtin "sum") dSum := ⟨_, cr_sum hc, by
  subst hK
  intro F H ds d vs Q hs r e q
  unfold dSum at e
  split at e
  · replace r := rvl_one r
    obtain ⟨v, rfl, r⟩ := r
    rw [rv_lst] at r
    obtain ⟨a, vs, rfl, h1, h2⟩ := r
    obtain ⟨bs, e1, e2⟩ := Option.map_eq_some_iff.mp e
    subst e2
    rw [dInts_eq e1] at h2
    rw [rpl_ints_inv h2] at h1
    exact ⟨a, bs, rfl, SqL.of h1, q _ _ _ .same (rp_int.mpr rfl)⟩
  · cases e⟩
/-- the greatest, the least of a list of ints -/
def maxL (n : Int) (ns : List Int) : Int := ns.foldl (fun a b => if a < b then b else a) n
def minL (n : Int) (ns : List Int) : Int := ns.foldl (fun a b => if b < a then b else a) n
theorem maxL_spec : ∀ (ns : List Int) (n : Int), maxL n ns ∈ n :: ns ∧ ∀ y ∈ n :: ns, y ≤ maxL n ns
  | [], n => ⟨by simp [maxL], by simp [maxL]⟩
  | m :: ns, n => by
    have h := maxL_spec ns (if n < m then m else n)
    have e : maxL n (m :: ns) = maxL (if n < m then m else n) ns := rfl
    rw [e]
    refine ⟨?_, fun y hy => ?_⟩
    · rcases List.mem_cons.mp h.1 with q | q
      · rw [q]; split <;> simp
      · simp [q]
    · have h0 := h.2 _ List.mem_cons_self
      have h1 : n ≤ (if n < m then m else n) ∧ m ≤ (if n < m then m else n) := by split <;> omega
      rcases List.mem_cons.mp hy with q | q
      · subst q; exact Int.le_trans h1.1 h0
      · rcases List.mem_cons.mp q with q | q
        · subst q; exact Int.le_trans h1.2 h0
        · exact h.2 y (List.mem_cons_of_mem _ q)
theorem minL_spec : ∀ (ns : List Int) (n : Int), minL n ns ∈ n :: ns ∧ ∀ y ∈ n :: ns, minL n ns ≤ y
  | [], n => ⟨by simp [minL], by simp [minL]⟩
  | m :: ns, n => by
    have h := minL_spec ns (if m < n then m else n)
    have e : minL n (m :: ns) = minL (if m < n then m else n) ns := rfl
    rw [e]
    refine ⟨?_, fun y hy => ?_⟩
    · rcases List.mem_cons.mp h.1 with q | q
      · rw [q]; split <;> simp
      · simp [q]
    · have h0 := h.2 _ List.mem_cons_self
      have h1 : (if m < n then m else n) ≤ n ∧ (if m < n then m else n) ≤ m := by split <;> omega
      rcases List.mem_cons.mp hy with q | q
      · subst q; exact Int.le_trans h0 h1.1
      · rcases List.mem_cons.mp q with q | q
        · subst q; exact Int.le_trans h0 h1.2
        · exact h.2 y (List.mem_cons_of_mem _ q)
def dMaxL : List D → Option D
  | [.lst xs] => match dInts xs with
    | some (n :: ns) => some (.int (maxL n ns))
    | _ => none
  | _ => none
def dMinL : List D → Option D
  | [.lst xs] => match dInts xs with
    | some (n :: ns) => some (.int (minL n ns))
    | _ => none
  | _ => none
theorem b_maxL (hK : K = X.K) (hc : X.calm = true) : Bi X K ct (.builtin "max") dMaxL := ⟨_, cr_max hc, by
  subst hK
  intro F H ds d vs Q hs r e q
  unfold dMaxL at e
  split at e
  · replace r := rvl_one r
    obtain ⟨v, rfl, r⟩ := r
    rw [rv_lst] at r
    obtain ⟨a, vs, rfl, h1, h2⟩ := r
    split at e
    · rename_i n ns e1
      cases e
      rw [dInts_eq e1] at h2
      rw [rpl_ints_inv h2] at h1
      have sp := maxL_spec ns n
      refine ⟨a, n :: ns, rfl, SqL.of h1, by simp, fun m hm hl => q _ _ _ .same (rp_int.mpr ?_)⟩
      have a1 := hl _ sp.1
      have a2 := sp.2 _ hm
      rw [show m = maxL n ns by omega]
    · cases e
  · cases e⟩
theorem b_minL (hK : K = X.K) (hc : X.calm = true) : Bi X K ct (.builtin "min") dMinL := ⟨_, cr_min hc, by
  subst hK
  intro F H ds d vs Q hs r e q
  unfold dMinL at e
  split at e
  · replace r := rvl_one r
    obtain ⟨v, rfl, r⟩ := r
    rw [rv_lst] at r
    obtain ⟨a, vs, rfl, h1, h2⟩ := r
    split at e
    · rename_i n ns e1
      cases e
      rw [dInts_eq e1] at h2
      rw [rpl_ints_inv h2] at h1
      have sp := minL_spec ns n
      refine ⟨a, n :: ns, rfl, SqL.of h1, by simp, fun m hm hl => q _ _ _ .same (rp_int.mpr ?_)⟩
      have a1 := hl _ sp.1
      have a2 := sp.2 _ hm
      rw [show m = minL n ns by omega]
    · cases e
  · cases e⟩
/-- list(..), tuple(..) -/
def dListOf : List D → Option D
  | [.lst xs] => some (.lst xs)
  | [.tup xs] => some (.lst xs)
  | [.scr ns] => some (.lst (ns.map .int))
  | _ => none
def dTupOf : List D → Option D
  | [.lst xs] => some (.tup xs)
  | [.tup xs] => some (.tup xs)
  | [.scr ns] => some (.tup (ns.map .int))
  | _ => none
theorem b_list (hK : K = X.K) : Bi X K ct (.type "list") dListOf := ⟨_, call_list_of, by
  subst hK
  intro F H ds d vs Q hs r e q
  unfold dListOf at e
  split at e
  · replace r := rvl_one r
    obtain ⟨v, rfl, r⟩ := r
    rw [rv_lst] at r
    obtain ⟨a, vs, rfl, h1, h2⟩ := r
    cases e
    exact ⟨_, vs, rfl, .inl (SqL.of h1), fun l hl => q _ _ _ (.new (o := .lst vs) hl) (rp_lst.mpr ⟨l, _, rfl, upd_same, h2.mono (same_updF (hs.free hl))⟩)⟩
  · replace r := rvl_one r
    obtain ⟨v, rfl, r⟩ := r
    rw [rv_tup] at r
    obtain ⟨a, vs, rfl, h1, h2⟩ := r
    cases e
    exact ⟨_, vs, rfl, .inr (same_t hs h1), fun l hl => q _ _ _ (.new (o := .lst vs) hl) (rp_lst.mpr ⟨l, _, rfl, upd_same, h2.mono (same_updF (hs.free hl))⟩)⟩
  · replace r := rvl_one r
    obtain ⟨v, rfl, r⟩ := r
    rw [rv_scr] at r
    obtain ⟨a, rfl, h1⟩ := r
    cases e
    exact ⟨_, _, rfl, .inl (same_l hs h1), fun l hl => q _ _ _ (.new (o := .lst (List.map V.int _)) hl) (rp_lst.mpr ⟨l, _, rfl, upd_same, rpl_ints⟩)⟩
  · cases e⟩
theorem b_tuple (hK : K = X.K) : Bi X K ct (.type "tuple") dTupOf := ⟨_, call_tuple_of, by
  subst hK
  intro F H ds d vs Q hs r e q
  unfold dTupOf at e
  split at e
  · replace r := rvl_one r
    obtain ⟨v, rfl, r⟩ := r
    rw [rv_lst] at r
    obtain ⟨a, vs, rfl, h1, h2⟩ := r
    cases e
    exact ⟨_, vs, rfl, .inl ⟨SqL.of h1, fun l hl => q _ _ _ (.new (o := .tup vs) hl) (rp_tup.mpr ⟨l, _, rfl, SqT.of upd_same, h2.mono (same_updF (hs.free hl))⟩)⟩⟩
  · replace r := rvl_one r
    obtain ⟨v, rfl, r⟩ := r
    rw [rv_tup] at r
    obtain ⟨a, vs, rfl, h1, h2⟩ := r
    cases e
    exact ⟨_, vs, rfl, .inr ⟨same_t hs h1, q _ _ _ .same (rp_tup.mpr ⟨a, vs, rfl, h1, h2⟩)⟩⟩
  · replace r := rvl_one r
    obtain ⟨v, rfl, r⟩ := r
    rw [rv_scr] at r
    obtain ⟨a, rfl, h1⟩ := r
    cases e
    exact ⟨_, _, rfl, .inl ⟨same_l hs h1, fun l hl => q _ _ _ (.new (o := .tup (List.map V.int _)) hl) (rp_tup.mpr ⟨l, _, rfl, SqT.of upd_same, rpl_ints⟩)⟩⟩
  · cases e⟩
end
end G
/-! G6: statements. -/
namespace G
open PySem PySem.Spec PyProof.Rows L2
/-! ### what a statement does, by a plain program -/
inductive SR where
  | nx (ρ : Env) | rt (d : D) (ρ : Env) | bk (ρ : Env) | ct (ρ : Env) | er (x : Ex) (ρ : Env) | no
abbrev MS := Env → SR
def MS.sq (a b : MS) : MS := fun ρ => match a ρ with
  | .nx ρ' => b ρ'
  | r => r
def mNx : MS := fun ρ => .nx ρ
def mBk : MS := fun ρ => .bk ρ
def mCt : MS := fun ρ => .ct ρ
def MS.of {α : Type} (m : M α) (k : α → MS) : MS := fun ρ => match m ρ with
  | .ok a ρ' => k a ρ'
  | .er x ρ' => .er x ρ'
  | .no => .no
/-- what is returned: frozen data; a new object that is nobody's -/
def RtR (S : Sg) (F' H' : Hp) (d : D) (v : V) : Prop := if S.ro = true then (∃ a o, v = .ref a ∧ S.C.H0 a = none ∧ F' a = none ∧ H' a = some o ∧ OwO S.C.K S.C.ct F' d o) else Rp S.C.K S.C.ct F' d v
def TsF (S : Sg) (Γ' : List Kd) (F : Hp) (D : Ends) (r : SR) : Prop := match r with
  | .nx ρ' => ∀ σ' F' H', Same F F' → RS S.C Γ' F' ρ' σ' H' → D.nx σ' H'
  | .rt d ρ' => ∀ v F' H', Same F F' → RO S.C F' ρ' H' → RtR S F' H' d v → D.rt v H'
  | .bk ρ' => ∀ σ' F' H', Same F F' → RS S.C S.gb F' ρ' σ' H' → D.bk σ' H'
  | .ct ρ' => ∀ σ' F' H', Same F F' → RS S.C S.gc F' ρ' σ' H' → D.ct σ' H'
  | .er x ρ' => ∀ cl dx σ' F' H', Same F F' → RE S.C S.ge F' ρ' σ' H' → RX S.C.K S.C.ct F' H' x cl dx → S.W cl dx σ' H'
  | .no => False
def Ts (S : Sg) (Γ Γ' : List Kd) (m : MS) : TS := fun D σ H => ∃ F ρ, RS S.C Γ F ρ σ H ∧ TsF S Γ' F D (m ρ)
section
variable {S : Sg} {Γ Γ' Γ1 Γ2 : List Kd} {F F1 : Hp} {D : Ends}
theorem TsF.late {r : SR} (e : Same F F1) (h : TsF S Γ' F D r) : TsF S Γ' F1 D r := by
  cases r with
  | nx ρ => exact fun σ' F' H' sm rs => h σ' F' H' (e.trans sm) rs
  | rt d ρ => exact fun v F' H' sm ro rp => h v F' H' (e.trans sm) ro rp
  | bk ρ => exact fun σ' F' H' sm rs => h σ' F' H' (e.trans sm) rs
  | ct ρ => exact fun σ' F' H' sm rs => h σ' F' H' (e.trans sm) rs
  | er x ρ => exact fun cl dx σ' F' H' sm re rx => h cl dx σ' F' H' (e.trans sm) re rx
  | no => exact h
theorem TsF.of {α γ : Type} {R : Rel α γ} {m : M α} {k : α → MS} {ρ : Env} {σ : L2.St} {H : Hp} (rs : RS S.C Γ F ρ σ H) (h : TsF S Γ' F D (MS.of m k ρ)) :
    TrF S Γ R m F σ H fun v H1 => ∃ d F1 ρ1, R H F1 H1 d v ∧ Ext (Own Γ σ) F H F1 H1 ∧ RS S.C Γ F1 ρ1 σ H1 ∧ TsF S Γ' F1 D (k d ρ1) := by
  refine ⟨ρ, rs, ?_⟩
  unfold MS.of at h
  cases e : m ρ with
  | no => rw [e] at h; exact h
  | er x ρ' => rw [e] at h; exact fun cl dx F' H' sm re rx => h cl dx σ F' H' sm re rx
  | ok d ρ' =>
    rw [e] at h
    exact fun v F1 H1 r1 x1 q1 => ⟨d, F1, ρ', q1, x1, r1, h.late x1.f⟩
theorem Ts.of {α γ : Type} {R : Rel α γ} {m : M α} {k : α → MS} {σ : L2.St} {H : Hp} (h : Ts S Γ Γ' (MS.of m k) D σ H) :
    Tr S Γ R m σ H fun v H1 => ∃ d F1 ρ1, R H F1 H1 d v ∧ Ext (Own Γ σ) F1 H F1 H1 ∧ RS S.C Γ F1 ρ1 σ H1 ∧ TsF S Γ' F1 D (k d ρ1) := by
  obtain ⟨F, ρ, rs, h⟩ := h
  refine ⟨F, (TsF.of (R := R) rs h).mono fun v H1 ⟨d, F1, ρ1, a, b, c, e⟩ => ⟨d, F1, ρ1, a, ⟨Same.refl _, fun b h => .inl h, b.h, b.n⟩, c, e⟩⟩
end
section
variable (X : Cx) (S : Sg) (Γ Γ' : List Kd)
def EvS (st : Stmt) (m : MS) : Prop := PS X st (Ts S Γ Γ' m)
def EvSs (st : List Stmt) (m : MS) : Prop := PSs X st (Ts S Γ Γ' m)
end
section
variable {X : Cx} {S : Sg} {Γ Γ' Γ1 Γ2 : List Kd} {pos : Pos}
theorem ss_nil : EvSs X S Γ Γ [] mNx := pss_imp pss_nil fun D σ H ⟨F, ρ, rs, h⟩ => h σ F H (Same.refl _) rs
theorem ss_cons {st : Stmt} {rest : List Stmt} {a b : MS} (h1 : EvS X S Γ Γ1 st a) (h2 : EvSs X S Γ1 Γ' rest b) : EvSs X S Γ Γ' (st :: rest) (a.sq b) := pss_imp (pss_cons h1 h2) fun D σ H ⟨F, ρ, rs, h⟩ => by
  refine ⟨F, ρ, rs, ?_⟩
  unfold MS.sq at h
  cases e : a ρ with
  | nx ρ' => rw [e] at h; exact fun σ' F' H' sm rs' => ⟨F', ρ', rs', h.late sm⟩
  | rt d ρ' => rw [e] at h; exact h
  | bk ρ' => rw [e] at h; exact h
  | ct ρ' => rw [e] at h; exact h
  | er x ρ' => rw [e] at h; exact h
  | no => rw [e] at h; exact h
theorem ss_one {st : Stmt} {a : MS} (h1 : EvS X S Γ Γ' st a) : EvSs X S Γ Γ' [st] a := pss_one h1
theorem s_pass : EvS X S Γ Γ (.Pass pos) mNx := ps_imp ps_pass fun D σ H ⟨F, ρ, rs, h⟩ => h σ F H (Same.refl _) rs
theorem s_doc {x j pos pos'} : EvS X S Γ Γ (.Expr (.Constant (.str x) j pos) pos') mNx := ps_imp ps_doc fun D σ H ⟨F, ρ, rs, h⟩ => h σ F H (Same.refl _) rs
theorem s_break (hb : S.gb = Γ := by rfl) : EvS X S Γ Γ' (.Break pos) mBk := ps_imp ps_break fun D σ H ⟨F, ρ, rs, h⟩ => h σ F H (Same.refl _) (by rw [hb]; exact rs)
theorem s_cont (hc : S.gc = Γ := by rfl) : EvS X S Γ Γ' (.Continue pos) mCt := ps_imp ps_continue fun D σ H ⟨F, ρ, rs, h⟩ => h σ F H (Same.refl _) (by rw [hc]; exact rs)
/-- slots' own objects are frozen -/
def frzL : List Nat → List Kd → Option (List Kd)
  | [], Γ => some Γ
  | i :: is, Γ => match Γ[i]? with
    | some .io => none
    | none => none
    | _ => frzL is (Γ.set i .fz)
theorem RS.frzs {C : Fx} {ρ : Env} {σ : L2.St} {H : Hp} : ∀ {is : List Nat} {Γ Γ2 : List Kd} {F : Hp}, frzL is Γ = some Γ2 → RS C Γ F ρ σ H → ∃ F', Same F F' ∧ RS C Γ2 F' ρ σ H
  | [], Γ, Γ2, F, e, r => by simp only [frzL] at e; cases e; exact ⟨F, Same.refl _, r⟩
  | i :: is, Γ, Γ2, F, e, r => by
    simp only [frzL] at e
    cases hk : Γ[i]? with
    | none => rw [hk] at e; cases e
    | some k =>
      have hn : k ≠ .io := fun z => by rw [hk, z] at e; cases e
      have e' : frzL is (Γ.set i .fz) = some Γ2 := by
        rw [hk] at e
        cases k with
        | io => exact absurd rfl hn
        | fz => exact e
        | ow => exact e
      obtain ⟨F1, s1, r1⟩ := r.frz (i := i) ⟨k, hk, hn⟩
      obtain ⟨F2, s2, r2⟩ := RS.frzs e' r1
      exact ⟨F2, s1.trans s2, r2⟩
theorem ss_frz (is : List Nat) {st : List Stmt} {m : MS} (h : EvSs X S Γ2 Γ' st m) (hf : frzL is Γ = some Γ2 := by rfl) : EvSs X S Γ Γ' st m := pss_imp h fun D σ H ⟨F, ρ, rs, h⟩ => by
  obtain ⟨F', sm, rs'⟩ := rs.frzs hf
  exact ⟨F', ρ, rs', h.late sm⟩
theorem s_frz (is : List Nat) {st : Stmt} {m : MS} (h : EvS X S Γ2 Γ' st m) (hf : frzL is Γ = some Γ2 := by rfl) : EvS X S Γ Γ' st m := ps_imp h fun D σ H ⟨F, ρ, rs, h⟩ => by
  obtain ⟨F', sm, rs'⟩ := rs.frzs hf
  exact ⟨F', ρ, rs', h.late sm⟩
theorem TsF.post {F : Hp} {D : Ends} {r : SR} (is : List Nat) (hf : frzL is Γ1 = some Γ') (h : TsF S Γ' F D r) : TsF S Γ1 F D r := by
  cases r with
  | nx ρ' =>
    intro σ' F' H' sm rs
    obtain ⟨F2, s2, r2⟩ := rs.frzs hf
    exact h σ' F2 H' (sm.trans s2) r2
  | rt d ρ' => exact h
  | bk ρ' => exact h
  | ct ρ' => exact h
  | er x ρ' => exact h
  | no => exact h
theorem ss_post (is : List Nat) {st : List Stmt} {m : MS} (h : EvSs X S Γ Γ1 st m) (hf : frzL is Γ1 = some Γ' := by rfl) : EvSs X S Γ Γ' st m := pss_imp h fun D σ H ⟨F, ρ, rs, h⟩ => ⟨F, ρ, rs, h.post is hf⟩
theorem s_post (is : List Nat) {st : Stmt} {m : MS} (h : EvS X S Γ Γ1 st m) (hf : frzL is Γ1 = some Γ' := by rfl) : EvS X S Γ Γ' st m := ps_imp h fun D σ H ⟨F, ρ, rs, h⟩ => ⟨F, ρ, rs, h.post is hf⟩
/-- a mirror in other words -/
theorem EvSs.to {st : List Stmt} {m m' : MS} (h : EvSs X S Γ Γ' st m) (e : m = m') : EvSs X S Γ Γ' st m' := e ▸ h
/-- name = value: frozen data; an object of one's own -/
def mSet (i : Nat) (m : M D) : MS := .of m fun d ρ => .nx (ρ.set i (some d))
theorem s_set {i : Nat} {x : Str} {e : Expr} {m : M D} {pos' : Pos} (he : EvE X S Γ e m) (hN : X.N.Nodup) (hi : X.N[i]? = some x) (hx : Loc X.env.scope x) (hf : X.fn x = true ∨ X.env.scope.names.lookup x = some .local) (hk : ∃ k, Γ[i]? = some k ∧ k ≠ .io) (hs : swapsWith e (some (.Name x pos')) pos.line X.env = pure false := by rfl) :
    EvS X S Γ (Γ.set i .fz) (.Assign [.Name x pos'] e pos) (mSet i m) := ps_imp (ps_set hN hi hx he hs hf) fun D σ H h => by
  refine (Ts.of (R := rD S) h).mono fun v H1 ⟨d, F1, ρ1, q, _, rs, h⟩ => ?_
  exact h _ F1 H1 (Same.refl _) (rs.setF hk q)
theorem s_setO {i : Nat} {x : Str} {e : Expr} {m : M D} {pos' : Pos} (he : EvO X S Γ e m) (hN : X.N.Nodup) (hi : X.N[i]? = some x) (hx : Loc X.env.scope x) (hf : X.fn x = true ∨ X.env.scope.names.lookup x = some .local) (hk : ∃ k, Γ[i]? = some k ∧ k ≠ .io) (hs : swapsWith e (some (.Name x pos')) pos.line X.env = pure false := by rfl) :
    EvS X S Γ (Γ.set i .ow) (.Assign [.Name x pos'] e pos) (mSet i m) := ps_imp (ps_set hN hi hx he hs hf) fun D σ H h => by
  obtain ⟨F, ρ, rs0, h⟩ := h
  refine ⟨F, (TsF.of (R := rO S) rs0 h).mono fun v H1 ⟨d, F1, ρ1, q, x1, rs, h⟩ => ?_⟩
  obtain ⟨a, o, rfl, h1, h2, h3, h4⟩ := q
  refine h _ F1 H1 (Same.refl _) (rs.setO hk h4 h2 h3 ?_ ?_)
  · cases e0 : S.C.H0 a with
    | none => rfl
    | some y => exact absurd h1 (rs0.ext.n a (by rw [e0]; simp))
  · intro z
    obtain ⟨_, o', z⟩ := rs0.own_some z
    rw [h1] at z
    cases z
/-- if -/
def mIfS (c : M Bool) (a b : MS) : MS := .of c fun k => if k = true then a else b
theorem s_if {c : Expr} {a b : List Stmt} {mc : M Bool} {ma mb : MS} (hc : EvT X S Γ c mc) (ha : EvSs X S Γ Γ' a ma) (hb : EvSs X S Γ Γ' b mb) : EvS X S Γ Γ' (.If c a b pos) (mIfS mc ma mb) := ps_imp (ps_if hc ha hb) fun D σ H h => by
  refine (Ts.of (R := rB) h).mono fun v H1 ⟨d, F1, ρ1, q, _, rs, h⟩ => ?_
  cases (show d = v from q)
  cases v with
  | true => exact iteT ⟨F1, ρ1, rs, h⟩
  | false => exact iteF ⟨F1, ρ1, rs, h⟩
/-- return -/
def mRet (m : M D) : MS := .of m fun d ρ => .rt d ρ
theorem s_ret {e : Expr} {m : M D} (he : EvE X S Γ e m) (hr : S.ro = false := by rfl) : EvS X S Γ Γ' (.Return (some e) pos) (mRet m) := ps_imp (ps_ret he) fun D σ H h => by
  refine (Ts.of (R := rD S) h).mono fun v H1 ⟨d, F1, ρ1, q, _, rs, h⟩ => ?_
  refine h v F1 H1 (Same.refl _) rs.ro ?_
  unfold RtR
  rw [if_neg (by rw [hr]; exact Bool.false_ne_true)]
  exact q
/-- a new object of one's own is handed out -/
theorem s_retO {e : Expr} {m : M D} (he : EvO X S Γ e m) (hr : S.ro = true := by rfl) : EvS X S Γ Γ' (.Return (some e) pos) (mRet m) := ps_imp (ps_ret he) fun D σ H ⟨F, ρ, rs0, h⟩ => by
  refine ⟨F, (TsF.of (R := rO S) rs0 h).mono fun v H1 ⟨d, F1, ρ1, q, _, rs, h⟩ => ?_⟩
  refine h v F1 H1 (Same.refl _) rs.ro ?_
  unfold RtR
  rw [if_pos hr]
  obtain ⟨a, o, e1, h1, h2, h3, h4⟩ := q
  refine ⟨a, o, e1, ?_, h2, h3, h4⟩
  cases e0 : S.C.H0 a with
  | none => rfl
  | some y => exact absurd h1 (rs0.ext.n a (by rw [e0]; simp))
/-- .. a slot's -/
theorem s_retS {i : Nat} {e : Expr} (he : PE X e (tVar i)) (hk : Γ[i]? = some .ow) (hr : S.ro = true := by rfl) : EvS X S Γ Γ' (.Return (some e) pos) (mRet (mV i)) := ps_imp (ps_ret he) fun D σ H ⟨F, ρ, rs, h⟩ => by
  unfold mRet MS.of mV at h
  cases e1 : ρ[i]? with
  | none => rw [e1] at h; exact h.elim
  | some x =>
    rw [e1] at h
    cases x with
    | none => exact h.elim
    | some d =>
      obtain ⟨a, o, h1, h2, h3, h4, _, h5⟩ := rs.ow i d _ hk (by decide) e1
      refine ⟨_, h1, h (.ref a) F H (Same.refl _) rs.ro ?_⟩
      unfold RtR
      rw [if_pos hr]
      exact ⟨a, o, rfl, h5 rfl, h2, h3, h4⟩
def mRetN : MS := fun ρ => .rt .non ρ
theorem s_retN (hr : S.ro = false := by rfl) : EvS X S Γ Γ' (.Return none pos) mRetN := ps_imp ps_retN fun D σ H ⟨F, ρ, rs, h⟩ => h .non F H (Same.refl _) rs.ro (by unfold RtR; rw [if_neg (by rw [hr]; exact Bool.false_ne_true)]; exact rp_non.mpr rfl)
/-- an expression alone -/
def mExp (m : M D) : MS := .of m fun _ ρ => .nx ρ
theorem s_exp {e : Expr} {m : M D} (he : EvE X S Γ e m) (hs : swapsWith e none pos.line X.env = pure false := by rfl) : EvS X S Γ Γ (.Expr e pos) (mExp m) := ps_imp (ps_expr he hs) fun D σ H h => by
  refine (Ts.of (R := rD S) h).mono fun v H1 ⟨d, F1, ρ1, q, _, rs, h⟩ => ?_
  exact h σ F1 H1 (Same.refl _) rs
/-! ### targets -/
abbrev MG := D → Env → Option Env
abbrev MGs := List D → Env → Option Env
/-- only these slots are touched -/
def OnlyS (is : List Nat) (σ σ' : L2.St) : Prop := σ'.length = σ.length ∧ ∀ i, i ∉ is → σ'[i]? = σ[i]?
def TgT (S : Sg) (Γ Γ' : List Kd) (is : List Nat) (g : MG) : TG := fun v σ H Q => ∃ F ρ d ρ', RS S.C Γ F ρ σ H ∧ Rp S.C.K S.C.ct F d v ∧ g d ρ = some ρ' ∧ ∀ σ', OnlyS is σ σ' → RS S.C Γ' F ρ' σ' H → Q σ' H
def TgTs (S : Sg) (Γ Γ' : List Kd) (is : List Nat) (g : MGs) : TGs := fun vs σ H Q => ∃ F ρ ds ρ', RS S.C Γ F ρ σ H ∧ RpL S.C.K S.C.ct F ds vs ∧ g ds ρ = some ρ' ∧ ∀ σ', OnlyS is σ σ' → RS S.C Γ' F ρ' σ' H → Q σ' H
def EvG (X : Cx) (S : Sg) (Γ Γ' : List Kd) (is : List Nat) (e : Expr) (g : MG) : Prop := PG X e (TgT S Γ Γ' is g)
def EvGs (X : Cx) (S : Sg) (Γ Γ' : List Kd) (is : List Nat) (e : List Expr) (g : MGs) : Prop := PGs X e (TgTs S Γ Γ' is g)
theorem pg_imp {e : Expr} {t t' : TG} (h : PG X e t) (k : ∀ v σ H Q, t' v σ H Q → t v σ H Q) : PG X e t' := ⟨fun pins s σ H v u Q I r q => h.run pins s σ H v u Q I r (k _ _ _ _ q)⟩
theorem pgs_imp {e : List Expr} {t t' : TGs} (h : PGs X e t) (k : ∀ v σ H Q, t' v σ H Q → t v σ H Q) : PGs X e t' := ⟨fun pins s σ H v u Q I r q => h.run pins s σ H v u Q I r (k _ _ _ _ q)⟩
def gN (i : Nat) : MG := fun d ρ => some (ρ.set i (some d))
theorem g_name {i : Nat} {x : Str} (hN : X.N.Nodup) (hi : X.N[i]? = some x) (hx : Loc X.env.scope x) (hf : X.fn x = true ∨ X.env.scope.names.lookup x = some .local) (hk : ∃ k, Γ[i]? = some k ∧ k ≠ .io) : EvG X S Γ (Γ.set i .fz) [i] (.Name x pos) (gN i) :=
  pg_imp (pg_name hN hi hx hf) fun v σ H Q ⟨F, ρ, d, ρ', rs, r, e, q⟩ => by
    cases e
    exact q _ ⟨by simp, fun j hj => List.getElem?_set_ne fun z => hj (by simp [z])⟩ (rs.setF hk r)
def gE : MGs := fun ds ρ => match ds with
  | [] => some ρ
  | _ => none
def gC (g : MG) (gs : MGs) : MGs := fun ds ρ => match ds with
  | d :: r => (g d ρ).bind (gs r)
  | [] => none
theorem g_nil : EvGs X S Γ Γ [] [] gE := pgs_imp pgs_nil fun vs σ H Q ⟨F, ρ, ds, ρ', rs, r, e, q⟩ => by
  cases ds with
  | nil =>
    simp only [gE] at e
    cases e
    exact ⟨rpl_nil.mp r, q _ ⟨rfl, fun _ _ => rfl⟩ rs⟩
  | cons d r => simp only [gE] at e; cases e
theorem g_cons {e : Expr} {es : List Expr} {g : MG} {gs : MGs} {is js : List Nat} (h1 : EvG X S Γ Γ1 is e g) (h2 : EvGs X S Γ1 Γ' js es gs) (hs : (assignEach (e :: es) X.env).map (·.2) = assign e X.env :: (assignEach es X.env).map (·.2) := by rfl) : EvGs X S Γ Γ' (is ++ js) (e :: es) (gC g gs) :=
  pgs_imp (pgs_cons h1 h2 hs) fun vs σ H Q ⟨F, ρ, ds, ρ', rs, r, e, q⟩ => by
    cases ds with
    | nil => simp only [gC] at e; cases e
    | cons d ds =>
      simp only [gC] at e
      obtain ⟨ρ1, e1, e2⟩ := Option.bind_eq_some_iff.mp e
      obtain ⟨v, vr, rfl, r1, r2⟩ := rpl_cons.mp r
      exact ⟨v, vr, rfl, F, ρ, d, ρ1, rs, r1, e1, fun σ1 o1 rs1 => ⟨F, ρ1, ds, ρ', rs1, r2, e2, fun σ2 o2 rs2 => q σ2 ⟨o2.1.trans o1.1, fun i hi => (o2.2 i fun z => hi (List.mem_append_right _ z)).trans (o1.2 i fun z => hi (List.mem_append_left _ z))⟩ rs2⟩⟩
def gT (n : Nat) (gs : MGs) : MG := fun d ρ => match d with
  | .tup ds => if ds.length = n then gs ds ρ else none
  | _ => none
theorem g_tup {es : List Expr} {k : Nat} {gs : MGs} {n : Nat} {is : List Nat} (hc : X.calm = true) (h : EvGs X S Γ Γ' is es gs) (hK : S.C.K = X.K := by rfl) (hn : (assignEach es X.env).length = n := by rfl) (hst : (assignEach es X.env).findIdx? (·.1) = none := by rfl) :
    EvG X S Γ Γ' is (.Tuple es k pos) (gT n gs) := pg_imp (pg_tup hc h hn hst) fun v σ H Q ⟨F, ρ, d, ρ', rs, r, e, q⟩ => by
  cases d <;> simp only [gT] at e <;> try (cases e; done)
  split at e
  · rename_i hl
    obtain ⟨a, vs, rfl, h1, h2⟩ := rp_tup.mp r
    exact ⟨a, vs, rfl, by rw [← hK]; exact same_t rs.sub h1, by rw [← h2.length]; exact hl, F, ρ, _, ρ', rs, h2, e, q⟩
  · cases e
/-- target = value -/
def mAsg (g : MG) (m : M D) : MS := .of m fun d ρ => match g d ρ with
  | some ρ' => .nx ρ'
  | none => .no
theorem s_asg {tg e : Expr} {m : M D} {g : MG} {is : List Nat} (he : EvE X S Γ e m) (hg : EvG X S Γ Γ' is tg g) (hs : swapsWithSole [tg] e pos.line X.env = pure false := by rfl) (hw : swappedStores [tg] e X.env = pure none := by rfl) (h1 : (assignEach [tg] X.env).map (·.2) = [assign tg X.env] := by rfl) :
    EvS X S Γ Γ' (.Assign [tg] e pos) (mAsg g m) := ps_imp (ps_asg he hg hs hw h1) fun D σ H h => by
  refine (Ts.of (R := rD S) h).mono fun v H1 ⟨d, F1, ρ1, q, _, rs, h⟩ => ?_
  cases e : g d ρ1 with
  | none => rw [e] at h; exact h.elim
  | some ρ2 =>
    rw [e] at h
    exact ⟨F1, ρ1, d, ρ2, rs, q, e, fun σ' _ rs' => h σ' F1 H1 (Same.refl _) rs'⟩
end
end G
/-! G7: enumerate and zip over lists and tuples, mixed. -/
namespace PySem
open Sem (wp)
theorem gEnumNew {v : Value} {o : Obj} {H : Heap → Prop} (B : Begins v o H) :
    Meets (Builtin.«enumerate.__new__» ⟨[.type "enumerate", v], []⟩) (fun _ R s => H s.heap ∧
      R (.ok (.ret (.ref (s.heap.push o).objs.size))) { s with heap := (s.heap.push o).push { cls := .type "enumerate", data := .fields #[.none, .bool false, .ref s.heap.objs.size, rawInt 0, .none, .none] } }) :=
  .of_wp fun prog w A R s h => by
    obtain ⟨hp, g, d, tk, os⟩ := s; obtain ⟨h1, h⟩ := h
    have hsub := sub_enumerate
    have q1 : ∀ {A' : Around} {E : Value → Shared → Prop} {Q : Value → Shared → Prop}, Q (.ref hp.objs.size) ⟨hp.push o, g, d, tk, os⟩ → wpAny (model prog w) A' (pyIter v) Q E ⟨hp, g, d, tk, os⟩ :=
      fun q => B.iter prog w _ _ ⟨hp, g, d, tk, os⟩ _ h1 q
    wp_walk using q1
    refine wpAny_stack_any fun st => wpAny_pure ?_
    split
    · rename_i c _ _ _ _ _
      cases (c == Value.type "enumerate")
      · wp_walk using q1
        exact ⟨_, rfl, h⟩
      · wp_walk using q1
        exact ⟨_, rfl, h⟩
    · wp_walk using q1
      exact ⟨_, rfl, h⟩
theorem gEnumBegins {prog : Program} {w : World} {A : Around} {E : Value → Shared → Prop} {s : Shared} {v : Value} {o : Obj} {H : Heap → Prop} {Q : Value → Shared → Prop} (B : Begins v o H) (h1 : H s.heap)
    (h : ∀ h', IsEnum h' (s.heap.objs.size + 1) s.heap.objs.size 0 .none → h'.get? s.heap.objs.size = some o → h'.objs.size = s.heap.objs.size + 2 →
      (∀ b o, s.heap.get? b = some o → h'.get? b = some o) → Q (.ref (s.heap.objs.size + 1)) { s with heap := h' }) :
    wpAny (model prog w) A (call (.type "enumerate") [v]) Q E s := by
  refine callType_new F.called_enumerate (by decide) (F.typeCall_enumerate_1 _) (F.newCall_enumerate_1 _) (fun obj => F.args_object_init_2 obj _) F.entry_enumerate_new
    (gEnumNew B) ⟨h1, ?_⟩
  have hz : (s.heap.push o).objs.size = s.heap.objs.size + 1 := Heap.size_push ..
  show _ ∧ _
  rw [hz]
  have he : IsEnum ((s.heap.push o).push { cls := .type "enumerate", data := .fields #[.none, .bool false, .ref s.heap.objs.size, rawInt 0, .none, .none] }) (s.heap.objs.size + 1) s.heap.objs.size 0 .none := by
    have := Heap.get?_push_size (s.heap.push o) (o := { cls := .type "enumerate", data := .fields #[.none, .bool false, .ref s.heap.objs.size, rawInt 0, .none, .none] }) rfl
    rw [hz] at this; exact this
  refine ⟨⟨_, he, rfl⟩, h _ he (Heap.get?_push_of_some _ (Heap.get?_push_size _ B.free)) (by rw [Heap.size_push, hz]) fun b o x => Heap.get?_push_of_some _ (Heap.get?_push_of_some _ x)⟩
end PySem
namespace G
open PySem PySem.Spec PyProof.Rows L2
/-- a list, a tuple -/
inductive Sd where
  | l | t
def SqB (K : Frag) (sd : Sd) (H : Hp) (a : Addr) (xs : List V) : Prop := match sd with
  | .l => SqL K H a xs
  | .t => SqT K H a xs
def ItB (sd : Sd) (h : Heap) (it a : Addr) (i : Nat) : Prop := match sd with
  | .l => h.IsListIter it a i
  | .t => h.IsTupleIter it a i
def ObB (sd : Sd) (h : Heap) (a : Addr) (its : Array Value) : Prop := match sd with
  | .l => h.IsList a its
  | .t => h.IsTuple a its
def oB (sd : Sd) (a : Addr) : Obj := match sd with
  | .l => { cls := .type "list_iterator", data := .fields #[.ref a, .int 0 0] }
  | .t => { cls := .type "tuple_iterator", data := .fields #[.ref a, .int 0 0] }
theorem itB_new {sd : Sd} {h : Heap} {it a : Addr} (e : h.get? it = some (oB sd a)) : ItB sd h it a 0 := by
  cases sd
  · exact ⟨_, e, rfl, rfl⟩
  · exact ⟨_, e, rfl, rfl⟩
theorem ItB.at {sd : Sd} {h h' : Heap} {it a : Addr} {i : Nat} (x : ItB sd h it a i) (k : ∀ o, h.get? it = some o → h'.get? it = some o) : ItB sd h' it a i := by
  cases sd
  · exact Heap.IsListIter.at x k
  · obtain ⟨o, e, q⟩ := x; exact ⟨o, k o e, q⟩
theorem ItB.obj {sd : Sd} {h : Heap} {it a : Addr} {i : Nat} (x : ItB sd h it a i) : ∃ o, h.get? it = some o ∧ ∀ v, o.data ≠ .cell v := by
  cases sd
  · obtain ⟨o, e, _, d⟩ := x; exact ⟨o, e, fun v q => by rw [d] at q; cases q⟩
  · obtain ⟨o, e, _, d⟩ := x; exact ⟨o, e, fun v q => by rw [d] at q; cases q⟩
theorem ObB.lt {sd : Sd} {h : Heap} {a : Addr} {its : Array Value} (x : ObB sd h a its) : a < h.objs.size := by
  cases sd
  · obtain ⟨o, e, _⟩ := x; exact Heap.lt_size e
  · obtain ⟨o, e, _⟩ := x; exact Heap.lt_size e
theorem drawB {prog : Program} {w : World} {A : Around} (hh : A.handled = none) (sd : Sd) (it a : Addr) (hne : a ≠ it) (items : Array Value) :
    Draws prog w A it [it, a] items.size (fun i v => items[i]? = some v) (fun i h => ItB sd h it a i ∧ ObB sd h a items) := by
  cases sd
  · exact Draws.list hh it a hne items
  · exact Draws.tuple hh it a hne items
theorem beginB (sd : Sd) (a : Addr) (items : Array Value) : Begins (.ref a) (oB sd a) fun h => ObB sd h a items := by
  cases sd
  · exact begins_list a items
  · exact begins_tuple a items
section
variable {X : Cx} {pins : List (Addr × Obj)} {σ : L2.St} {H : Hp} {s : Shared} {a : Addr} {xs ys : List V} {sd sd2 : Sd}
theorem inv_sq (I : Inv X pins σ H s) (h : SqB X.K sd H a xs) : ∃ its : List Value, Vals xs its ∧ ObB sd s.heap a its.toArray := by
  cases sd
  · obtain ⟨its, r, p, _⟩ := I.list h; exact ⟨its, r, p.isList⟩
  · obtain ⟨its, r, p, _⟩ := I.tuple h; exact ⟨its, r, p⟩
theorem inv_sq_inj (I : Inv X pins σ H s) (h : SqB X.K sd H a xs) (h' : SqB X.K sd H a ys) : xs = ys := by
  cases sd
  · exact I.list_inj h h'
  · exact I.tuple_inj h h'
end
/-- enumerate -/
def IteB (K : Frag) (sd : Sd) (a : Addr) : It :=
  ⟨fun i H => ∃ (xs : List V) (x : V), SqB K sd H a xs ∧ xs[i]? = some x, fun i H v H' => ∃ T x, v = .ref T ∧ H T = none ∧ H' = upd H T (.tup [.int (i : Nat), x]) ∧ ∀ xs, SqB K sd H a xs → xs[i]? = some x, fun i H => ∃ xs : List V, SqB K sd H a xs ∧ xs.length = i⟩
theorem turn_enumB {P : Program} {w : World} {K : Frag} {elts : List Expr} {kk : Nat} {tpos : Pos} (sd : Sd) (a e it : Addr) :
    Turn P w K (.Tuple elts kk tpos) (IteB K sd a) [e, it] e (fun i h => (∃ old, IsEnum h e it ((i : Nat) : Int) old) ∧ ItB sd h it a i ∧ e ≠ it ∧ e ≠ a ∧ a ≠ it) where
  mem := by simp
  obj := fun i h st b hb => by
    obtain ⟨⟨old, he⟩, hi, _⟩ := st
    have e' : b = e ∨ b = it := by simpa using hb
    rcases e' with z | z
    · rw [z]; exact ⟨_, he, fun v q => nomatch q⟩
    · rw [z]; exact hi.obj
  keep := fun i h h' st k => let ⟨⟨old, he⟩, hi, hne⟩ := st; ⟨⟨old, k e (by simp) _ he⟩, hi.at fun o q => k it (by simp) o q, hne⟩
  item := by
    intro X hP hw hK hc i pins s σ H E I hf st hg
    subst hP hw hK
    obtain ⟨⟨old, he⟩, hit, hne, hea, hai⟩ := st
    obtain ⟨xs, x, hq, hx⟩ := hg
    obtain ⟨its, rv, p⟩ := inv_sq I hq
    obtain ⟨u, hu, ru⟩ := rv.get hx
    have hel : e < s.heap.objs.size := Heap.lt_size he
    have hil : it < s.heap.objs.size := by obtain ⟨_, q, _⟩ := hit.obj; exact Heap.lt_size q
    have hlt : i < its.toArray.size := by
      have := (List.getElem?_eq_some_iff.mp hu).1
      simpa using this
    refine wpAny_pyNext_enum_itemD (drawB (A := X.A.in1) (I.ok.hd hc) sd it a hai its.toArray) he ⟨hit, p⟩ hlt hne (by simp [hne, hea]) fun y h' tk hy ho st' hT hsz hk => ?_
    have eu : y = u := by
      have : its[i]? = some y := by simpa using hy
      rw [hu] at this; cases this; rfl
    subst eu
    refine ⟨_, rfl, wpAny_letOwnedTupleGo_enum (s := { s with heap := h', toks := tk + 1 }) ho fun h'' he' sb => ?_⟩
    have hT2 : h''.get? s.heap.objs.size = some { cls := .type "tuple", data := .seq #[.int i tk, y] } := (sb.2 _ (Nat.ne_of_gt hel)).trans hT
    have new : ObjOk X.prog X.w (upd H s.heap.objs.size (.tup [.int (i : Nat), x])) h'' s.heap.objs.size (.tup [.int (i : Nat), x]) :=
      ⟨by show 2 ≤ sizeLine; decide, [.int i tk, y], .cons ⟨_, rfl⟩ (.cons ru .nil), ⟨_, hT2, rfl, _, rfl⟩⟩
    have I1 : Inv X pins σ (upd H s.heap.objs.size (.tup [.int (i : Nat), x])) { s with heap := h'', toks := tk + 1 } :=
      I.turnedNew (ch := [e, it]) (fun b ob hb q => (sb.2 b (fun z => hb (by simp [z]))).trans (hk b ob (fun z => hb (by simp [z])) (fun z => hb (by simp [z])) q)) hf (Nat.le_refl _) new
    refine ⟨.ref s.heap.objs.size, _, I1, rfl, ⟨_, x, rfl, I.hok.fresh (Nat.le_refl _), rfl, fun ys hy => by rw [inv_sq_inj I hy hq]; exact hx⟩, ⟨⟨y, ?_⟩, st'.1.at fun o q => (sb.2 it (Ne.symm hne)).trans q, hne, hea, hai⟩, fun b hb => ?_⟩
    · have e1 : ((i + 1 : Nat) : Int) = (i : Int) + 1 := by omega
      rw [e1]; exact he'
    · have hb' : b < s.heap.objs.size := by
        have e' : b = e ∨ b = it := by simpa using hb
        rcases e' with z | z
        · rw [z]; exact hel
        · rw [z]; exact hil
      rw [upd_ne (Nat.ne_of_lt hb')]
      exact (hf b hb).1
  done := by
    intro X hP hw hK hc i pins s σ H E I hf st hg
    subst hP hw hK
    obtain ⟨⟨old, he⟩, hit, hne, hea, hai⟩ := st
    obtain ⟨xs, hq, hx⟩ := hg
    obtain ⟨its, rv, p⟩ := inv_sq I hq
    obtain ⟨f0, f1, f2, f3, f4, f5⟩ := hf it (by simp)
    have hl := rv.length
    have hn : i = its.toArray.size := by simp; omega
    subst hn
    exact wpAny_pyNext_enum_endD (drawB (A := X.A.in1) (I.ok.hd hc) sd it a hai its.toArray) he ⟨hit, p⟩ fun h' eb => ⟨rfl, I.turned (t' := s.toks) (fun b o hb q => eb b o hb q) f0 f1 f3 f4 f5⟩
  self := fun A i s Q E st h => let ⟨⟨_, he⟩, _⟩ := st; wpAny_pyIter_enum he h
def iEnumB (K : Frag) (ta : TA) : TI := fun σ H R => ta σ H fun vs H1 => ∃ sd a xs, vs = [.ref a] ∧ SqB K sd H1 a xs ∧ R (IteB K sd a) H1
theorem pi_enumB {X : Cx} {e : Expr} {ta : TA} {p pos tpos : Pos} {elts : List Expr} {kk : Nat} (hg : Gl X "enumerate") (hm : X.mg "enumerate" = none) (ha : PA X [e] ta) (hs : starEach [e] X.env = [(false, eval e X.env)] := by rfl) :
    PI X (.Tuple elts kk tpos) (.Call (.Name "enumerate" p) [e] [] pos) (iEnumB X.K ta) := by
  refine ⟨fun pins s σ H R I h => ?_⟩
  refine Call_ (ld_blt I hg hm boot_enumerate (PyProof.Rows.callWith_type1 (thn (ha.run pos pins s σ H _ I h) fun us s1 ⟨vs, H1, I1, r1, q1⟩ => ?_) hs rfl))
  obtain ⟨sd, a, xs, ex, hq, q⟩ := q1
  subst ex
  cases r1 with
  | cons r rr =>
    cases rr
    cases r
    obtain ⟨its, rv, p'⟩ := inv_sq I1 hq
    refine gEnumBegins (beginB sd a its.toArray) p' fun h' he hit hsz hk => wpAny_pyIter_enum he ?_
    have I2 : Inv X pins σ H1 { s1 with heap := h' } := I1.kept (t' := s1.toks) hk
    have hlt := p'.lt
    refine ⟨s1.heap.objs.size + 1, [s1.heap.objs.size + 1, s1.heap.objs.size], _, _, H1, rfl, I2, turn_enumB sd a (s1.heap.objs.size + 1) s1.heap.objs.size, ⟨⟨.none, he⟩, itB_new hit, Nat.succ_ne_self _, Nat.ne_of_gt (Nat.lt_succ_of_lt hlt), Nat.ne_of_lt hlt⟩, fun b hb => ?_, q⟩
    have e' : b = s1.heap.objs.size + 1 ∨ b = s1.heap.objs.size := by simpa using hb
    have hle : s1.heap.objs.size ≤ b := by
      rcases e' with z | z
      · rw [z]; exact Nat.le_add_right _ _
      · rw [z]; exact Nat.le_refl _
    exact I1.fpOk hle (I1.hok.fresh hle)
/-- zip of two -/
def ItzB (K : Frag) (sd sd2 : Sd) (a b : Addr) : It :=
  ⟨fun i H => ∃ (xs ys : List V) (x y : V), SqB K sd H a xs ∧ SqB K sd2 H b ys ∧ xs[i]? = some x ∧ ys[i]? = some y,
    fun i H v H' => ∃ T x y, v = .ref T ∧ H T = none ∧ H' = upd H T (.tup [x, y]) ∧ (∀ xs, SqB K sd H a xs → xs[i]? = some x) ∧ ∀ ys, SqB K sd2 H b ys → ys[i]? = some y,
    fun i H => ∃ xs ys : List V, SqB K sd H a xs ∧ SqB K sd2 H b ys ∧ i ≤ xs.length ∧ i ≤ ys.length ∧ (i = xs.length ∨ i = ys.length)⟩
theorem turn_zipB {P : Program} {w : World} {K : Frag} {elts : List Expr} {kk : Nat} {tpos : Pos} {sd sd2 : Sd} {a b z TI TO i1 i2 : Addr} (D : ZipSep2 z TI TO i1 i2 [i1, a] [i2, b]) (ha1 : a ≠ i1) (hb2 : b ≠ i2) :
    Turn P w K (.Tuple elts kk tpos) (ItzB K sd sd2 a b) [z, TI, TO, i1, i2] z (fun i h => IsZip h z TI TO .none ∧ IsTupOf2 h TI (.ref i1) (.ref i2) ∧ (∃ x y, IsTupOf2 h TO x y) ∧ ItB sd h i1 a i ∧ ItB sd2 h i2 b i) where
  mem := by simp
  obj := fun i h st c hc => by
    obtain ⟨hz, hTI, ⟨x, y, hTO⟩, h1, h2⟩ := st
    have e' : c = z ∨ c = TI ∨ c = TO ∨ c = i1 ∨ c = i2 := by simpa using hc
    rcases e' with q | q | q | q | q
    · rw [q]; exact ⟨_, hz, fun v q => nomatch q⟩
    · rw [q]; exact ⟨_, hTI, fun v q => nomatch q⟩
    · rw [q]; exact ⟨_, hTO, fun v q => nomatch q⟩
    · rw [q]; exact h1.obj
    · rw [q]; exact h2.obj
  keep := fun i h h' st k => by
    obtain ⟨hz, hTI, ⟨x, y, hTO⟩, h1, h2⟩ := st
    exact ⟨k z (by simp) _ hz, k TI (by simp) _ hTI, ⟨x, y, k TO (by simp) _ hTO⟩, h1.at fun o q => k i1 (by simp) o q, h2.at fun o q => k i2 (by simp) o q⟩
  item := by
    intro X hP hw hK hc i pins s σ H E I hf st hg
    subst hP hw hK
    obtain ⟨hz, hTI, ⟨x0, y0, hTO⟩, h1, h2⟩ := st
    obtain ⟨xs, ys, x, y, hqx, hqy, hx, hy⟩ := hg
    obtain ⟨its, rv, p⟩ := inv_sq I hqx
    obtain ⟨its2, rv2, p2⟩ := inv_sq I hqy
    obtain ⟨u, hu, ru⟩ := rv.get hx
    obtain ⟨u2, hu2, ru2⟩ := rv2.get hy
    have hzl : z < s.heap.objs.size := Heap.lt_size hz
    have hl1 : i < its.toArray.size := by
      have := (List.getElem?_eq_some_iff.mp hu).1
      simpa using this
    have hl2 : i < its2.toArray.size := by
      have := (List.getElem?_eq_some_iff.mp hu2).1
      simpa using this
    refine wpAny_pyNext_zipD2_item D (drawB (A := X.A.in1) (I.ok.hd hc) sd i1 a ha1 its.toArray) (drawB (A := X.A.in1) (I.ok.hd hc) sd2 i2 b hb2 its2.toArray) hz hTI hTO ⟨h1, p⟩ ⟨h2, p2⟩ hl1 hl2 fun v1 v2 h' tk e1 e2 z' TO' h1' h2' hT hsz hk => ?_
    have eu : v1 = u := by
      have : its[i]? = some v1 := by simpa using e1
      rw [hu] at this; cases this; rfl
    have eu2 : v2 = u2 := by
      have : its2[i]? = some v2 := by simpa using e2
      rw [hu2] at this; cases this; rfl
    subst eu eu2
    refine ⟨_, rfl, wpAny_letOwnedTupleGo_zip (s := { s with heap := h', toks := tk }) z' fun h'' z'' sb => ?_⟩
    have hT2 : h''.get? s.heap.objs.size = some { cls := .type "tuple", data := .seq #[v1, v2] } := (sb.2 _ (Nat.ne_of_gt hzl)).trans hT
    have new : ObjOk X.prog X.w (upd H s.heap.objs.size (.tup [x, y])) h'' s.heap.objs.size (.tup [x, y]) :=
      ⟨by show 2 ≤ sizeLine; decide, [v1, v2], .cons ru (.cons ru2 .nil), ⟨_, hT2, rfl, _, rfl⟩⟩
    have I1 : Inv X pins σ (upd H s.heap.objs.size (.tup [x, y])) { s with heap := h'', toks := tk } :=
      I.turnedNew (ch := [z, TI, TO, i1, i2]) (fun c o hb q => (sb.2 c (fun q' => hb (by simp [q']))).trans (hk c o (fun q' => hb (by simp [q'])) (fun q' => hb (by simp [q'])) (fun q' => hb (by simp [q'])) (fun q' => hb (by simp [q'])) q)) hf (Nat.le_refl _) new
    refine ⟨.ref s.heap.objs.size, _, I1, rfl, ⟨_, x, y, rfl, I.hok.fresh (Nat.le_refl _), rfl, fun l hl => by rw [inv_sq_inj I hl hqx]; exact hx, fun l hl => by rw [inv_sq_inj I hl hqy]; exact hy⟩, ⟨z'', ?_, ⟨v1, v2, ?_⟩, ?_, ?_⟩, fun c hcm => ?_⟩
    · exact (sb.2 _ D.TIz).trans (hk _ _ D.TIz D.TITO D.TIi1 D.TIi2 hTI)
    · exact (sb.2 _ D.TOz).trans TO'
    · exact h1'.1.at fun o q => (sb.2 _ (Ne.symm D.zi1)).trans q
    · exact h2'.1.at fun o q => (sb.2 _ (Ne.symm D.zi2)).trans q
    · have hlt : c < s.heap.objs.size := by
        have e' : c = z ∨ c = TI ∨ c = TO ∨ c = i1 ∨ c = i2 := by simpa using hcm
        rcases e' with q | q | q | q | q
        · rw [q]; exact hzl
        · rw [q]; exact Heap.lt_size hTI
        · rw [q]; exact Heap.lt_size hTO
        · rw [q]; obtain ⟨_, e1, _⟩ := h1.obj; exact Heap.lt_size e1
        · rw [q]; obtain ⟨_, e2, _⟩ := h2.obj; exact Heap.lt_size e2
      rw [upd_ne (Nat.ne_of_lt hlt)]
      exact (hf c hcm).1
  done := by
    intro X hP hw hK hc i pins s σ H E I hf st hg
    subst hP hw hK
    obtain ⟨hz, hTI, ⟨x0, y0, hTO⟩, h1, h2⟩ := st
    obtain ⟨xs, ys, hqx, hqy, hle1, hle2, hend⟩ := hg
    obtain ⟨its, rv, p⟩ := inv_sq I hqx
    obtain ⟨its2, rv2, p2⟩ := inv_sq I hqy
    have l1 := rv.length
    have l2 := rv2.length
    exact wpAny_pyNext_zipD2_end D (drawB (A := X.A.in1) (I.ok.hd hc) sd i1 a ha1 its.toArray) (drawB (A := X.A.in1) (I.ok.hd hc) sd2 i2 b hb2 its2.toArray) hz hTI hTO ⟨h1, p⟩ ⟨h2, p2⟩ (by simp; omega) (by simp; omega) (by simp; omega)
      fun h' tk hk => ⟨rfl, I.turnedL (ch := [z, TI, TO, i1, i2]) (fun c o hb q =>
      hk c o (fun q' => hb (by simp [q'])) (fun q' => hb (by simp [q'])) (fun q' => hb (by simp [q'])) (fun q' => hb (by simp [q'])) q) hf⟩
  self := fun A i s Q E st h => wpAny_pyIter_zip st.1 h
def iZipB (K : Frag) (ta : TA) : TI := fun σ H R => ta σ H fun vs H1 => ∃ sd sd2 a b xs ys, vs = [.ref a, .ref b] ∧ SqB K sd H1 a xs ∧ SqB K sd2 H1 b ys ∧ R (ItzB K sd sd2 a b) H1
theorem pi_zipB {X : Cx} {e e2 : Expr} {ta : TA} {p pos tpos : Pos} {elts : List Expr} {kk : Nat} (hg : Gl X "zip") (hm : X.mg "zip" = none) (ha : PA X [e, e2] ta)
    (hs : starEach [e, e2] X.env = (false, eval e X.env) :: starEach [e2] X.env := by rfl) (hpl : (backTo pos (starEach [e2] X.env)).any (·.1) = false := by rfl) :
    PI X (.Tuple elts kk tpos) (.Call (.Name "zip" p) [e, e2] [] pos) (iZipB X.K ta) := by
  refine ⟨fun pins s σ H R I h => ?_⟩
  refine Call_ (ld_blt I hg hm PyProof.Rows.boot_zip (PyProof.Rows.callWith_type1 (thn (ha.run pos pins s σ H _ I h) fun us s1 ⟨vs, H1, I1, r1, q1⟩ => ?_) hs hpl))
  obtain ⟨sd, sd2, a, b, xs, ys, ex, hqx, hqy, q⟩ := q1
  subst ex
  cases r1 with
  | cons r rr =>
    cases rr with
    | cons r' rr =>
      cases rr
      cases r
      cases r'
      obtain ⟨its, rv, p1⟩ := inv_sq I1 hqx
      obtain ⟨its2, rv2, p2⟩ := inv_sq I1 hqy
      have la := p1.lt
      have lb := p2.lt
      refine zip_begins2 (beginB sd a its.toArray) (beginB sd2 b its2.toArray) p1 p2 fun h' hz hTI hTO h1 h2 hsz hk => wpAny_pyIter_zip hz ?_
      have I2 : Inv X pins σ H1 { s1 with heap := h' } := I1.kept (t' := s1.toks) hk
      refine ⟨s1.heap.objs.size + 4, [s1.heap.objs.size + 4, s1.heap.objs.size + 2, s1.heap.objs.size + 3, s1.heap.objs.size, s1.heap.objs.size + 1], _, _, H1, rfl, I2, turn_zipB (zip_sep2 (fp1 := [a]) (fp2 := [b]) (by simpa using la) (by simpa using lb)) (Nat.ne_of_lt la) (Nat.ne_of_lt (Nat.lt_succ_of_lt lb)), ⟨hz, hTI, ⟨_, _, hTO⟩, itB_new h1, itB_new h2⟩, fun c hcm => ?_, q⟩
      have e' : c = s1.heap.objs.size + 4 ∨ c = s1.heap.objs.size + 2 ∨ c = s1.heap.objs.size + 3 ∨ c = s1.heap.objs.size ∨ c = s1.heap.objs.size + 1 := by simpa using hcm
      have hle : s1.heap.objs.size ≤ c := by
        rcases e' with z | z | z | z | z
        · rw [z]; exact Nat.le_add_right _ _
        · rw [z]; exact Nat.le_add_right _ _
        · rw [z]; exact Nat.le_add_right _ _
        · rw [z]; exact Nat.le_refl _
        · rw [z]; exact Nat.le_add_right _ _
      exact I1.fpOk hle (I1.hok.fresh hle)
end G
/-! G8: what is walked; for, while. -/
namespace G
open PySem PySem.Spec PyProof.Rows L2
/-! ### what is walked, by its items -/
def ItOk (K : Frag) (ct : Ct) (F : Hp) (ds : List D) (J : It) : Prop := ∀ (F2 H : Hp) (i : Nat), Same F F2 → Same F2 H →
  (i = ds.length → J.stop i H) ∧ ∀ d, ds[i]? = some d → J.go i H ∧ ∀ x H', J.yld i H x H' → ∃ F', Gw F2 H F' H' ∧ Rp K ct F' d x
def rI (S : Sg) : Rel (List D) It := fun _ F _ ds J => ItOk S.C.K S.C.ct F ds J
theorem rI_late {S : Sg} : (rI S).Late := fun _ _ _ _ _ _ _ h => h
def EvI (X : Cx) (S : Sg) (Γ : List Kd) (tg iter : Expr) (m : M (List D)) : Prop := PI X tg iter (Tr S Γ (rI S) m)
theorem pi_imp {X : Cx} {tg e : Expr} {t t' : TI} (h : PI X tg e t) (k : ∀ σ H R, t' σ H R → t σ H R) : PI X tg e t' := ⟨fun pins s σ H R I q => h.run pins s σ H R I (k _ _ _ q)⟩
def Itq (K : Frag) (sd : Sd) (a : Addr) : It := match sd with
  | .l => Itl K a
  | .t => Itt K a
def iAny (K : Frag) (tl : TE) : TI := fun σ H R => tl σ H fun x H1 => (∃ sd a, x = .ref a ∧ (∃ xs, SqB K sd H1 a xs) ∧ R (Itq K sd a) H1) ∨ ∃ z, x = .str z ∧ R (Its z) H1
theorem pi_any {X : Cx} {tg l : Expr} {tl : TE} (hl : PE X l tl) : PI X tg l (iAny X.K tl) := by
  refine ⟨fun pins s σ H R I h => ?_⟩
  refine thn (hl.run pins s σ H _ I h) fun v s1 ⟨x, H1, I1, r1, q1⟩ => ?_
  rcases q1 with ⟨sd, a, e, ⟨xs, hq⟩, q⟩ | ⟨z, e, q⟩
  · subst e
    cases r1
    have fp : ∀ b ∈ [s1.heap.objs.size], FpOk X pins H1 b := fun b hb => by
      have e : b = s1.heap.objs.size := by simpa using hb
      subst e
      exact I1.fpOk (Nat.le_refl _) (I1.hok.fresh (Nat.le_refl _))
    cases sd with
    | l =>
      obtain ⟨its, rv, p, hz⟩ := I1.list hq
      refine wpAny_pyIter_list p.isList ?_
      exact ⟨s1.heap.objs.size, [s1.heap.objs.size], _, _, H1, rfl, I1.kept (t' := s1.toks) fun b o e => Heap.get?_push_of_some _ e, turn_list a _, ⟨_, Heap.get?_push_size _ rfl, rfl, rfl⟩, fp, q⟩
    | t =>
      obtain ⟨its, rv, p, hz⟩ := I1.tuple hq
      refine wpAny_pyIter_tuple (show s1.heap.IsTuple a its.toArray from p) ?_
      exact ⟨s1.heap.objs.size, [s1.heap.objs.size], _, _, H1, rfl, I1.kept (t' := s1.toks) fun b o e => Heap.get?_push_of_some _ e, turn_tuple a _, ⟨_, Heap.get?_push_size _ rfl, rfl, rfl⟩, fp, q⟩
  · subst e
    obtain ⟨t, rfl⟩ := r1
    cases ha : z.cps.all (· < 128)
    · exact wpAny_pyIter_wide ha (pi_one (tk := s1.toks) I1 _ (turn_str _ z t "str_iterator" (.inr rfl)) ⟨_, Heap.get?_push_size _ rfl, rfl, rfl⟩ q)
    · exact wpAny_pyIter_ascii ha (pi_one (tk := s1.toks) I1 _ (turn_str _ z t "str_ascii_iterator" (.inl rfl)) ⟨_, Heap.get?_push_size _ rfl, rfl, rfl⟩ q)
/-- the items of a list, a tuple, a text -/
def dIt : D → Option (List D)
  | .lst xs => some xs
  | .tup xs => some xs
  | .scr ns => some (ns.map .int)
  | .str x => some (x.cps.toList.map fun c => .str ⟨#[c]⟩)
  | _ => none
/-- how a walked thing lies -/
def Sq (K : Frag) (ct : Ct) (F : Hp) (ds : List D) (sd : Sd) (a : Addr) : Prop := ∃ vs, SqB K sd F a vs ∧ RpL K ct F ds vs
theorem same_sq {K : Frag} {sd : Sd} {H H' : Hp} {a : Addr} {xs : List V} (e : Same H H') (h : SqB K sd H a xs) : SqB K sd H' a xs := by
  cases sd
  · exact same_l e h
  · exact same_t e h
section
variable {K : Frag} {ct : Ct} {F H : Hp}
theorem sq_lst {ds : List D} {v : V} (r : Rp K ct F (.lst ds) v) : ∃ a, v = .ref a ∧ Sq K ct F ds .l a := by
  obtain ⟨a, vs, rfl, h1, h2⟩ := rp_lst.mp r
  exact ⟨a, rfl, vs, SqL.of h1, h2⟩
theorem sq_scr {ns : List Int} {v : V} (r : Rp K ct F (.scr ns) v) : ∃ a, v = .ref a ∧ Sq K ct F (ns.map .int) .l a := by
  obtain ⟨a, rfl, h1⟩ := rp_scr.mp r
  exact ⟨a, rfl, _, h1, rpl_ints⟩
theorem sq_tup {ds : List D} {v : V} (r : Rp K ct F (.tup ds) v) : ∃ a, v = .ref a ∧ Sq K ct F ds .t a := by
  obtain ⟨a, vs, rfl, h1, h2⟩ := rp_tup.mp r
  exact ⟨a, rfl, vs, h1, h2⟩
/-- a list or a tuple -/
def dSq : D → Option (List D)
  | .lst xs => some xs
  | .tup xs => some xs
  | .scr ns => some (ns.map .int)
  | _ => none
theorem sq_of {d : D} {v : V} {ds : List D} (r : Rp K ct F d v) (e : dSq d = some ds) : ∃ sd a, v = .ref a ∧ Sq K ct F ds sd a := by
  cases d <;> simp only [dSq] at e <;> try (cases e; done)
  · cases e; obtain ⟨a, h⟩ := sq_tup r; exact ⟨_, a, h⟩
  · cases e; obtain ⟨a, h⟩ := sq_lst r; exact ⟨_, a, h⟩
  · cases e; obtain ⟨a, h⟩ := sq_scr r; exact ⟨_, a, h⟩
end
section
variable {X : Cx} {S : Sg} {Γ : List Kd} {K : Frag} {ct : Ct} {F : Hp}
/-- the yield where nothing is new -/
theorem itOk_seq {ds : List D} {sd : Sd} {a : Addr} (h : Sq K ct F ds sd a) : ItOk K ct F ds (Itq K sd a) := fun F2 H i s1 s2 => by
  obtain ⟨vs, q, r⟩ := h
  have r2 := r.mono s1
  have q2 := same_sq (s1.trans s2) q
  cases sd with
  | l =>
    refine ⟨fun e => ⟨vs, q2, by rw [e, r.length]; exact Nat.le_refl _⟩, fun d e => ?_⟩
    obtain ⟨v, e1, e2⟩ := r2.get e
    refine ⟨⟨vs, v, q2, e1⟩, fun x H' y => ?_⟩
    obtain ⟨eh, y⟩ := y
    subst eh
    have := y vs q2
    rw [e1] at this
    cases this
    exact ⟨F2, .same, e2⟩
  | t =>
    refine ⟨fun e => ⟨vs, q2, by rw [e, r.length]; exact Nat.le_refl _⟩, fun d e => ?_⟩
    obtain ⟨v, e1, e2⟩ := r2.get e
    refine ⟨⟨vs, v, q2, e1⟩, fun x H' y => ?_⟩
    obtain ⟨eh, y⟩ := y
    subst eh
    have := y vs q2
    rw [e1] at this
    cases this
    exact ⟨F2, .same, e2⟩
theorem itOk_str {x : Str} : ItOk K ct F (x.cps.toList.map fun c => .str ⟨#[c]⟩) (Its x) := fun F2 H i s1 s2 => by
  refine ⟨fun e => by rw [e]; simp [Its], fun d e => ?_⟩
  rw [List.getElem?_map] at e
  obtain ⟨c, e1, e2⟩ := Option.map_eq_some_iff.mp e
  subst e2
  have e3 : x.cps[i]? = some c := by simpa using e1
  refine ⟨(Array.getElem?_eq_some_iff.mp e3).1, fun v H' y => ?_⟩
  obtain ⟨eh, c', e4, ev⟩ := y
  subst eh
  rw [e3] at e4
  cases e4
  exact ⟨F2, .same, rp_str.mpr ev⟩
def mIt (m : M D) : M (List D) := m.bind fun d => M.opt (dIt d)
theorem i_any {tg e : Expr} {m : M D} (h : EvE X S Γ e m) (hK : S.C.K = X.K := by rfl) : EvI X S Γ tg e (mIt m) := pi_imp (pi_any h) fun σ H R q => by
  refine (Tr.bind (R1 := rD S) rI_late q).mono fun v H1 ⟨d, F1, r, q⟩ => ?_
  obtain ⟨ds, e1, hs, k⟩ := q.opt0
  have r : Rp S.C.K S.C.ct F1 d v := r
  have fin : ∀ {sd a}, v = .ref a → Sq S.C.K S.C.ct F1 ds sd a → (∃ sd a, v = .ref a ∧ (∃ xs, SqB X.K sd H1 a xs) ∧ R (Itq X.K sd a) H1) := fun {sd a} e h => by
    obtain ⟨vs, q1, q2⟩ := id h
    refine ⟨sd, a, e, ⟨vs, by rw [← hK]; exact same_sq hs q1⟩, ?_⟩
    rw [← hK]
    exact k _ (itOk_seq h)
  cases d <;> simp only [dIt] at e1 <;> try (cases e1; done)
  · cases e1
    exact .inr ⟨_, rp_str.mp r, k _ itOk_str⟩
  · cases e1; obtain ⟨a, e, h⟩ := sq_tup r; exact .inl (fin e h)
  · cases e1; obtain ⟨a, e, h⟩ := sq_lst r; exact .inl (fin e h)
  · cases e1; obtain ⟨a, e, h⟩ := sq_scr r; exact .inl (fin e h)
/-- range -/
def rngD (lo hi : Int) : List D := (List.range (hi - lo).toNat).map fun (k : Nat) => D.int (lo + k)
def dRng1 : List D → Option (List D)
  | [.int hi] => if -(2 ^ 62) ≤ hi ∧ hi < 2 ^ 62 then some (rngD 0 hi) else none
  | _ => none
def dRng2 : List D → Option (List D)
  | [.int lo, .int hi] => if -(2 ^ 62) ≤ lo ∧ lo < 2 ^ 62 ∧ -(2 ^ 62) ≤ hi ∧ hi < 2 ^ 62 then some (rngD lo hi) else none
  | _ => none
theorem itOk_rng {lo : Int} {n : Nat} : ItOk K ct F ((List.range n).map fun (k : Nat) => D.int (lo + k)) (Itr lo n) := fun F2 H i s1 s2 => by
  refine ⟨fun e => by rw [e]; simp [Itr], fun d e => ?_⟩
  rw [List.getElem?_map] at e
  obtain ⟨c, e1, e2⟩ := Option.map_eq_some_iff.mp e
  subst e2
  obtain ⟨hl, e3⟩ := List.getElem?_eq_some_iff.mp e1
  have hl' : i < n := by simpa using hl
  have e4 : c = i := by simpa using e3.symm
  subst e4
  refine ⟨hl', fun v H' y => ?_⟩
  obtain ⟨eh, ev⟩ := y
  subst eh
  exact ⟨F2, .same, rp_int.mpr ev⟩
theorem rpl_int1 {i : Int} {vs : List V} (r : RpL K ct F [.int i] vs) : vs = [.int i] := by
  obtain ⟨v, w, rfl, r1, r2⟩ := rpl_cons.mp r
  rw [rpl_nil.mp r2, rp_int.mp r1]
theorem rpl_int2 {i j : Int} {vs : List V} (r : RpL K ct F [.int i, .int j] vs) : vs = [.int i, .int j] := by
  obtain ⟨v, w, rfl, r1, r2⟩ := rpl_cons.mp r
  rw [rpl_int1 r2, rp_int.mp r1]
def mRg1 (m : M (List D)) : M (List D) := m.bind fun ds => M.opt (dRng1 ds)
def mRg2 (m : M (List D)) : M (List D) := m.bind fun ds => M.opt (dRng2 ds)
theorem rng1_inv {ds es : List D} (e : dRng1 ds = some es) : ∃ hi, ds = [.int hi] ∧ -(2 ^ 62) ≤ hi ∧ hi < 2 ^ 62 ∧ es = rngD 0 hi := by
  unfold dRng1 at e
  split at e
  · split at e
    · rename_i h; cases e; exact ⟨_, rfl, h.1, h.2, rfl⟩
    · cases e
  · cases e
theorem rng2_inv {ds es : List D} (e : dRng2 ds = some es) : ∃ lo hi, ds = [.int lo, .int hi] ∧ (-(2 ^ 62) ≤ lo ∧ lo < 2 ^ 62 ∧ -(2 ^ 62) ≤ hi ∧ hi < 2 ^ 62) ∧ es = rngD lo hi := by
  unfold dRng2 at e
  split at e
  · split at e
    · rename_i h; cases e; exact ⟨_, _, rfl, h, rfl⟩
    · cases e
  · cases e
theorem i_rng1 {tg a : Expr} {m : M (List D)} {p pos : Pos} (h : EvA X S Γ [a] m) (hm : X.mg "range" = none) (hg : Gl X "range" := by rfl) (hs : starEach [a] X.env = [(false, eval a X.env)] := by rfl) : EvI X S Γ tg (.Call (.Name "range" p) [a] [] pos) (mRg1 m) := pi_imp (pi_range1 hg hm h hs) fun σ H R q => by
  refine (Tr.bind (R1 := rL S) rI_late q).mono fun vs H1 ⟨ds, F1, r, q⟩ => ?_
  obtain ⟨es, e1, hs, k⟩ := q.opt0
  obtain ⟨hi, rfl, h1, h2, rfl⟩ := rng1_inv e1
  refine ⟨hi, rpl_int1 r, h1, h2, k _ ?_⟩
  unfold rngD
  rw [Int.sub_zero]
  exact itOk_rng
theorem i_rng2 {tg a b : Expr} {m : M (List D)} {p pos : Pos} (h : EvA X S Γ [a, b] m) (hm : X.mg "range" = none) (hg : Gl X "range" := by rfl) (hs : starEach [a, b] X.env = [(false, eval a X.env), (false, eval b X.env)] := by rfl) (hs2 : starEach [b] X.env = [(false, eval b X.env)] := by rfl) : EvI X S Γ tg (.Call (.Name "range" p) [a, b] [] pos) (mRg2 m) := pi_imp (pi_range2 hg hm h hs hs2) fun σ H R q => by
  refine (Tr.bind (R1 := rL S) rI_late q).mono fun vs H1 ⟨ds, F1, r, q⟩ => ?_
  obtain ⟨es, e1, hs, k⟩ := q.opt0
  obtain ⟨lo, hi, rfl, h1, rfl⟩ := rng2_inv e1
  exact ⟨lo, hi, rpl_int2 r, h1, k _ itOk_rng⟩
/-- enumerate -/
def enD (ds : List D) : List D := (List.range ds.length).zipWith (fun (k : Nat) d => D.tup [.int k, d]) ds
theorem enD_get {ds : List D} {i : Nat} {e : D} (h : (enD ds)[i]? = some e) : ∃ d, ds[i]? = some d ∧ e = .tup [.int i, d] := by
  unfold enD at h
  rw [List.getElem?_zipWith] at h
  cases e1 : ds[i]? with
  | none => rw [e1] at h; cases e2 : (List.range ds.length)[i]? <;> rw [e2] at h <;> cases h
  | some d =>
    have hl := (List.getElem?_eq_some_iff.mp e1).1
    rw [e1, List.getElem?_range hl] at h
    cases h
    exact ⟨d, rfl, rfl⟩
theorem itOk_en {ds : List D} {sd : Sd} {a : Addr} (h : Sq K ct F ds sd a) : ItOk K ct F (enD ds) (IteB K sd a) := fun F2 H i s1 s2 => by
  obtain ⟨vs, q, r⟩ := h
  have r2 := r.mono s1
  have q2 := same_sq (s1.trans s2) q
  refine ⟨fun e => ⟨vs, q2, by rw [e, ← r.length]; simp [enD]⟩, fun d e => ?_⟩
  obtain ⟨d0, e0, rfl⟩ := enD_get e
  obtain ⟨v, e1, e2⟩ := r2.get e0
  refine ⟨⟨vs, v, q2, e1⟩, fun x H' y => ?_⟩
  obtain ⟨T, x0, rfl, hT, rfl, y⟩ := y
  have := y vs q2
  rw [e1] at this
  cases this
  refine ⟨_, .new hT, rp_tup.mpr ⟨T, _, rfl, SqT.of upd_same, RpL.two (rp_int.mpr rfl) (e2.mono (same_updF (s2.free hT)))⟩⟩
def d1Sq : List D → Option (List D)
  | [d] => dSq d
  | _ => none
def mEn (m : M (List D)) : M (List D) := m.bind fun ds => M.opt ((d1Sq ds).map enD)
theorem i_en {e : Expr} {elts : List Expr} {kk : Nat} {m : M (List D)} {p pos tpos : Pos} (h : EvA X S Γ [e] m) (hm : X.mg "enumerate" = none) (hK : S.C.K = X.K := by rfl) (hg : Gl X "enumerate" := by rfl) (hs : starEach [e] X.env = [(false, eval e X.env)] := by rfl) :
    EvI X S Γ (.Tuple elts kk tpos) (.Call (.Name "enumerate" p) [e] [] pos) (mEn m) := pi_imp (pi_enumB hg hm h hs) fun σ H R q => by
  refine (Tr.bind (R1 := rL S) rI_late q).mono fun vs H1 ⟨ds, F1, r, q⟩ => ?_
  obtain ⟨es, e1, hs, k⟩ := q.opt0
  obtain ⟨ds1, e2, rfl⟩ := Option.map_eq_some_iff.mp e1
  cases ds with
  | nil => simp only [d1Sq] at e2; cases e2
  | cons d ds =>
    cases ds with
    | cons _ _ => simp only [d1Sq] at e2; cases e2
    | nil =>
      simp only [d1Sq] at e2
      obtain ⟨v, w, rfl, r1, r2⟩ := rpl_cons.mp r
      rw [rpl_nil.mp r2]
      obtain ⟨sd, a, rfl, q1⟩ := sq_of r1 e2
      obtain ⟨vs, q2, q3⟩ := id q1
      refine ⟨sd, a, vs, rfl, by rw [← hK]; exact same_sq hs q2, ?_⟩
      rw [← hK]
      exact k _ (itOk_en q1)
/-- zip -/
def zpD (ds es : List D) : List D := ds.zipWith (fun d e => D.tup [d, e]) es
theorem zpD_get {ds es : List D} {i : Nat} {e : D} (h : (zpD ds es)[i]? = some e) : ∃ d d', ds[i]? = some d ∧ es[i]? = some d' ∧ e = .tup [d, d'] := by
  unfold zpD at h
  rw [List.getElem?_zipWith] at h
  cases e1 : ds[i]? with
  | none => rw [e1] at h; cases e2 : es[i]? <;> rw [e2] at h <;> cases h
  | some d =>
    cases e2 : es[i]? with
    | none => rw [e1, e2] at h; cases h
    | some d' => rw [e1, e2] at h; cases h; exact ⟨_, _, rfl, rfl, rfl⟩
theorem itOk_zp {ds es : List D} {sd sd2 : Sd} {a b : Addr} (h : Sq K ct F ds sd a) (h' : Sq K ct F es sd2 b) : ItOk K ct F (zpD ds es) (ItzB K sd sd2 a b) := fun F2 H i s1 s2 => by
  obtain ⟨vs, q, r⟩ := h
  obtain ⟨ws, q', r'⟩ := h'
  have r2 := r.mono s1
  have q2 := same_sq (s1.trans s2) q
  have r2' := r'.mono s1
  have q2' := same_sq (s1.trans s2) q'
  refine ⟨fun e => ?_, fun d e => ?_⟩
  · have hl : i = min ds.length es.length := by rw [e]; simp [zpD]
    rw [r.length, r'.length] at hl
    exact ⟨vs, ws, q2, q2', by omega, by omega, by omega⟩
  · obtain ⟨d0, d1, e0, e0', rfl⟩ := zpD_get e
    obtain ⟨v, e1, e2⟩ := r2.get e0
    obtain ⟨v', e1', e2'⟩ := r2'.get e0'
    refine ⟨⟨vs, ws, v, v', q2, q2', e1, e1'⟩, fun x H' y => ?_⟩
    obtain ⟨T, x0, x1, rfl, hT, rfl, y, y'⟩ := y
    have := y vs q2
    rw [e1] at this
    cases this
    have := y' ws q2'
    rw [e1'] at this
    cases this
    have sm := same_updF (o := .tup [v, v']) (s2.free hT)
    exact ⟨_, .new hT, rp_tup.mpr ⟨T, _, rfl, SqT.of upd_same, RpL.two (e2.mono sm) (e2'.mono sm)⟩⟩
def dZp : List D → Option (List D)
  | [a, b] => match dSq a, dSq b with
    | some ds, some es => some (zpD ds es)
    | _, _ => none
  | _ => none
def mZp (m : M (List D)) : M (List D) := m.bind fun ds => M.opt (dZp ds)
theorem i_zp {e e2 : Expr} {elts : List Expr} {kk : Nat} {m : M (List D)} {p pos tpos : Pos} (h : EvA X S Γ [e, e2] m) (hm : X.mg "zip" = none) (hK : S.C.K = X.K := by rfl) (hg : Gl X "zip" := by rfl) (hs : starEach [e, e2] X.env = (false, eval e X.env) :: starEach [e2] X.env := by rfl) (hpl : (backTo pos (starEach [e2] X.env)).any (·.1) = false := by rfl) :
    EvI X S Γ (.Tuple elts kk tpos) (.Call (.Name "zip" p) [e, e2] [] pos) (mZp m) := pi_imp (pi_zipB hg hm h hs hpl) fun σ H R q => by
  refine (Tr.bind (R1 := rL S) rI_late q).mono fun vs H1 ⟨ds, F1, r, q⟩ => ?_
  obtain ⟨es, e1, hs, k⟩ := q.opt0
  unfold dZp at e1
  split at e1
  · split at e1
    · rename_i a b ds es q1 q2
      cases e1
      obtain ⟨v, w, rfl, r1, r2⟩ := rpl_cons.mp r
      obtain ⟨v', w', rfl, r1', r2'⟩ := rpl_cons.mp r2
      rw [rpl_nil.mp r2']
      obtain ⟨sd, a, rfl, z1⟩ := sq_of r1 q1
      obtain ⟨sd2, b, rfl, z2⟩ := sq_of r1' q2
      obtain ⟨vs, y1, _⟩ := id z1
      obtain ⟨ws, y2, _⟩ := id z2
      refine ⟨sd, sd2, a, b, vs, ws, rfl, by rw [← hK]; exact same_sq hs y1, by rw [← hK]; exact same_sq hs y2, ?_⟩
      rw [← hK]
      exact k _ (itOk_zp z1 z2)
    · cases e1
  · cases e1
end
/-! ### for, while -/
section
variable {X : Cx} {S : Sg} {Γ Γ' : List Kd} {pos : Pos}
def forL (g : MG) (b : MS) : List D → MS
  | [] => mNx
  | d :: ds => fun ρ => match g d ρ with
    | none => .no
    | some ρ1 => match b ρ1 with
      | .nx ρ2 => forL g b ds ρ2
      | .ct ρ2 => forL g b ds ρ2
      | .bk ρ2 => .nx ρ2
      | r => r
def mFor (it : M (List D)) (g : MG) (b : MS) : MS := .of it fun ds => forL g b ds
abbrev Sg.lp (S : Sg) (Γ : List Kd) : Sg := { S with gc := Γ, gb := Γ }
theorem s_for {tg iter : Expr} {body : List Stmt} {m : M (List D)} {g : MG} {b : MS} {Γ1 : List Kd} {is : List Nat} (hp : PassesOwn (model X.prog X.w) X.A X.env X.xe) (hc : X.calm = true) (hi : EvI X S Γ tg iter m) (hg : EvG X (S.lp Γ) Γ Γ1 is tg g) (hb : EvSs X (S.lp Γ) Γ1 Γ body b)
    (hs : ∀ x, foldedSetIterable iter X.env x = pure x := by intro _; rfl) : EvS X S Γ Γ (.For tg iter body [] pos) (mFor m g b) := ps_imp (ps_for hp hc hi hg hb hs) fun D σ H h => by
  obtain ⟨F, ρ, rs, h⟩ := h
  refine ⟨F, (TsF.of (R := rI S) rs h).mono fun J H1 ⟨ds, F1, ρ1, q, _, rs1, h⟩ => ?_⟩
  refine ⟨fun i m σ H => ∃ F2 ρ2, Same F1 F2 ∧ RS S.C Γ F2 ρ2 σ H ∧ i ≤ ds.length ∧ m = ds.length - i ∧ TsF S Γ F2 D (forL g b (ds.drop i) ρ2), ⟨ds.length, F1, ρ1, Same.refl _, rs1, Nat.zero_le _, by simp, by simpa using h⟩, ?_⟩
  rintro i m σ H ⟨F2, ρ2, sm, rs2, hle, rfl, h⟩
  have it := q F2 H i sm rs2.sub
  by_cases hlt : i < ds.length
  · refine .inr ?_
    have hd : ds[i]? = some ds[i] := List.getElem?_eq_getElem hlt
    obtain ⟨go, yl⟩ := it.2 _ hd
    refine ⟨go, fun σ' H' => ∃ F3 ρ3, Same F2 F3 ∧ RS S.C Γ F3 ρ3 σ' H' ∧ TsF S Γ F3 D (forL g b (ds.drop (i + 1)) ρ3), fun σ' H' ⟨F3, ρ3, s3, rs3, h3⟩ => ⟨ds.length - (i + 1), by omega, F3, ρ3, sm.trans s3, rs3, hlt, rfl, h3⟩, fun x H' y => ?_⟩
    obtain ⟨F3, gw, rp⟩ := yl x H' y
    have rs3 : RS S.C Γ F3 ρ2 σ H' ∧ Same F2 F3 := by
      cases gw with
      | same => exact ⟨rs2, Same.refl _⟩
      | new hp => exact ⟨rs2.newF hp, same_updF (rs2.sub.free hp)⟩
    rw [List.drop_eq_getElem_cons hlt] at h
    unfold forL at h
    cases e : g ds[i] ρ2 with
    | none => rw [e] at h; exact h.elim
    | some ρ3 =>
      rw [e] at h
      refine ⟨F3, ρ2, ds[i], ρ3, rs3.1, rp, e, fun σ' _ rs4 => ⟨F3, ρ3, rs4, ?_⟩⟩
      have h : TsF S Γ F3 D (match b ρ3 with
        | .nx ρ2 => forL g b (ds.drop (i + 1)) ρ2
        | .ct ρ2 => forL g b (ds.drop (i + 1)) ρ2
        | .bk ρ2 => .nx ρ2
        | r => r) := TsF.late rs3.2 h
      cases e2 : b ρ3 with
      | nx ρ4 =>
        rw [e2] at h
        exact fun σ4 F4 H4 s4 rs4 => ⟨F4, ρ4, rs3.2.trans s4, rs4, h.late s4⟩
      | ct ρ4 =>
        rw [e2] at h
        exact fun σ4 F4 H4 s4 rs4 => ⟨F4, ρ4, rs3.2.trans s4, rs4, h.late s4⟩
      | bk ρ4 => rw [e2] at h; exact h
      | rt d ρ4 => rw [e2] at h; exact h
      | er x ρ4 => rw [e2] at h; exact h
      | no => rw [e2] at h; exact h
  · have e : i = ds.length := by omega
    refine .inl ⟨it.1 e, ?_⟩
    subst e
    rw [List.drop_length] at h
    exact h σ F2 H (Same.refl _) rs2
/-- while: n turns at most -/
def whL (c : M Bool) (b : MS) : Nat → MS
  | 0 => fun _ => .no
  | n + 1 => .of c fun k => if k = true then (fun ρ => match b ρ with
      | .nx ρ2 => whL c b n ρ2
      | .ct ρ2 => whL c b n ρ2
      | .bk ρ2 => .nx ρ2
      | r => r) else mNx
open Classical in
noncomputable def mWh (c : M Bool) (b : MS) : MS := fun ρ => if h : ∃ n, whL c b n ρ ≠ .no then whL c b (choose h) ρ else .no
theorem whL_mono {c : M Bool} {b : MS} : ∀ {n : Nat} {ρ : Env}, whL c b n ρ ≠ .no → ∀ k, whL c b (n + k) ρ = whL c b n ρ
  | 0, ρ, h, k => absurd rfl h
  | n + 1, ρ, h, k => by
    rw [Nat.add_right_comm]
    unfold whL at h ⊢
    unfold MS.of at h ⊢
    cases e : c ρ with
    | no => rfl
    | er x ρ' => rfl
    | ok t ρ' =>
      rw [e] at h
      cases t with
      | false => rfl
      | true =>
        show (match b ρ' with
          | .nx ρ2 => whL c b (n + k) ρ2
          | .ct ρ2 => whL c b (n + k) ρ2
          | .bk ρ2 => .nx ρ2
          | r => r) = (match b ρ' with
          | .nx ρ2 => whL c b n ρ2
          | .ct ρ2 => whL c b n ρ2
          | .bk ρ2 => .nx ρ2
          | r => r)
        have h : (match b ρ' with
          | .nx ρ2 => whL c b n ρ2
          | .ct ρ2 => whL c b n ρ2
          | .bk ρ2 => .nx ρ2
          | r => r) ≠ .no := h
        cases e2 : b ρ' with
        | nx ρ2 => rw [e2] at h; exact whL_mono h k
        | ct ρ2 => rw [e2] at h; exact whL_mono h k
        | bk ρ2 => rfl
        | rt d ρ2 => rfl
        | er x ρ2 => rfl
        | no => rfl
theorem mWh_eq {c : M Bool} {b : MS} {n : Nat} {ρ : Env} (h : whL c b n ρ ≠ .no) : mWh c b ρ = whL c b n ρ := by
  have hx : ∃ n, whL c b n ρ ≠ .no := ⟨n, h⟩
  unfold mWh
  rw [dif_pos hx]
  have h2 := Classical.choose_spec hx
  rcases Nat.le_total n (Classical.choose hx) with l | l
  · obtain ⟨k, e⟩ := Nat.le.dest l
    rw [← e]
    exact whL_mono h k
  · obtain ⟨k, e⟩ := Nat.le.dest l
    conv => rhs; rw [← e]
    exact (whL_mono h2 k).symm
theorem mWh_some {c : M Bool} {b : MS} {ρ : Env} (h : mWh c b ρ ≠ .no) : ∃ n, whL c b n ρ ≠ .no ∧ mWh c b ρ = whL c b n ρ := by
  by_cases hx : ∃ n, whL c b n ρ ≠ .no
  · obtain ⟨n, hn⟩ := hx
    exact ⟨n, hn, mWh_eq hn⟩
  · unfold mWh at h
    rw [dif_neg hx] at h
    exact absurd rfl h
theorem s_while {c : Expr} {body : List Stmt} {mc : M Bool} {b : MS} (hp : PassesOwn (model X.prog X.w) X.A X.env X.xe) (hc : EvT X S Γ c mc) (hb : EvSs X (S.lp Γ) Γ Γ body b) : EvS X S Γ Γ (.While c body [] pos) (mWh mc b) := ps_imp (ps_while hp hc hb) fun D σ H h => by
  obtain ⟨F, ρ, rs, h⟩ := h
  have hn : mWh mc b ρ ≠ .no := fun e => by rw [e] at h; exact h
  obtain ⟨n, hn, e⟩ := mWh_some hn
  rw [e] at h
  refine ⟨fun m σ H => ∃ F2 ρ2, Same F F2 ∧ RS S.C Γ F2 ρ2 σ H ∧ TsF S Γ F2 D (whL mc b m ρ2), ⟨n, F, ρ, Same.refl _, rs, h⟩, ?_⟩
  rintro m σ H ⟨F2, ρ2, sm, rs2, h⟩
  cases m with
  | zero => exact h.elim
  | succ m =>
    unfold whL at h
    refine ⟨F2, (TsF.of (R := rB) rs2 h).mono fun v H1 ⟨d, F3, ρ3, q, x3, rs3, h⟩ => ?_⟩
    cases (show d = v from q)
    cases v with
    | false => exact iteF (h σ F3 H1 (Same.refl _) rs3)
    | true =>
      refine iteT ⟨fun σ' H' => ∃ F4 ρ4, Same F3 F4 ∧ RS S.C Γ F4 ρ4 σ' H' ∧ TsF S Γ F4 D (whL mc b m ρ4), fun σ' H' ⟨F4, ρ4, s4, rs4, h4⟩ => ⟨m, Nat.lt_succ_self _, F4, ρ4, (sm.trans x3.f).trans s4, rs4, h4⟩, F3, ρ3, rs3, ?_⟩
      have h : TsF S Γ F3 D (match b ρ3 with
        | .nx ρ2 => whL mc b m ρ2
        | .ct ρ2 => whL mc b m ρ2
        | .bk ρ2 => .nx ρ2
        | r => r) := h
      cases e2 : b ρ3 with
      | nx ρ4 => rw [e2] at h; exact fun σ4 F4 H4 s4 rs4 => ⟨F4, ρ4, s4, rs4, h.late s4⟩
      | ct ρ4 => rw [e2] at h; exact fun σ4 F4 H4 s4 rs4 => ⟨F4, ρ4, s4, rs4, h.late s4⟩
      | bk ρ4 => rw [e2] at h; exact h
      | rt d ρ4 => rw [e2] at h; exact h
      | er x ρ4 => rw [e2] at h; exact h
      | no => rw [e2] at h; exact h
end
end G
/-! G9: list comprehensions. -/
namespace G
open PySem PySem.Spec PyProof.Rows L2
/-! ### a block's own slots -/
def wpE (ρ : Env) : List Nat → Env
  | [] => ρ
  | v :: vs => (wpE ρ vs).set v none
def rsE (ρ ρ0 : Env) : List Nat → Env
  | [] => ρ
  | v :: vs => (rsE ρ ρ0 vs).set v (ρ0[v]?.getD none)
theorem wpE_len (ρ : Env) : ∀ vs, (wpE ρ vs).length = ρ.length
  | [] => rfl
  | v :: vs => by unfold wpE; rw [List.length_set, wpE_len]
theorem rsE_len (ρ ρ0 : Env) : ∀ vs, (rsE ρ ρ0 vs).length = ρ.length
  | [] => rfl
  | v :: vs => by unfold rsE; rw [List.length_set, rsE_len]
theorem wpE_out {ρ : Env} {i : Nat} : ∀ {vs : List Nat}, i ∉ vs → (wpE ρ vs)[i]? = ρ[i]?
  | [], _ => rfl
  | v :: vs, h => by
    unfold wpE
    rw [List.getElem?_set_ne (fun e => h (by rw [e]; exact List.mem_cons_self))]
    exact wpE_out fun z => h (List.mem_cons_of_mem _ z)
theorem wpE_in {ρ : Env} {i : Nat} (hi : i < ρ.length) : ∀ {vs : List Nat}, i ∈ vs → (wpE ρ vs)[i]? = some none
  | [], h => by simp at h
  | v :: vs, h => by
    unfold wpE
    by_cases z : v = i
    · subst z
      exact List.getElem?_set_self (by rw [wpE_len]; exact hi)
    · rw [List.getElem?_set_ne z]
      exact wpE_in hi ((List.mem_cons.mp h).resolve_left fun e => z e.symm)
theorem rsE_out {ρ ρ0 : Env} {i : Nat} : ∀ {vs : List Nat}, i ∉ vs → (rsE ρ ρ0 vs)[i]? = ρ[i]?
  | [], _ => rfl
  | v :: vs, h => by
    unfold rsE
    rw [List.getElem?_set_ne (fun e => h (by rw [e]; exact List.mem_cons_self))]
    exact rsE_out fun z => h (List.mem_cons_of_mem _ z)
theorem rsE_in {ρ ρ0 : Env} {i : Nat} (hi : i < ρ.length) (h0 : i < ρ0.length) : ∀ {vs : List Nat}, i ∈ vs → (rsE ρ ρ0 vs)[i]? = ρ0[i]?
  | [], h => by simp at h
  | v :: vs, h => by
    unfold rsE
    by_cases z : v = i
    · subst z
      rw [List.getElem?_set_self (by rw [rsE_len]; exact hi), List.getElem?_eq_getElem h0]
      rfl
    · rw [List.getElem?_set_ne z]
      exact rsE_in hi h0 ((List.mem_cons.mp h).resolve_left fun e => z e.symm)
theorem wp_out {σ : L2.St} {i : Nat} : ∀ {vs : List Nat}, i ∉ vs → (wipe σ vs)[i]? = σ[i]?
  | [], _ => rfl
  | v :: vs, h => by
    unfold wipe
    rw [List.getElem?_set_ne (fun e => h (by rw [e]; exact List.mem_cons_self))]
    exact wp_out fun z => h (List.mem_cons_of_mem _ z)
theorem wp_in {σ : L2.St} {i : Nat} (hi : i < σ.length) : ∀ {vs : List Nat}, i ∈ vs → (wipe σ vs)[i]? = some none
  | [], h => by simp at h
  | v :: vs, h => by
    unfold wipe
    by_cases z : v = i
    · subst z
      exact List.getElem?_set_self (by rw [wipe_length]; exact hi)
    · rw [List.getElem?_set_ne z]
      exact wp_in hi ((List.mem_cons.mp h).resolve_left fun e => z e.symm)
/-- a block's own slots are frozen data's -/
def fzAll (Γ : List Kd) (vs : List Nat) : Bool := vs.all fun v => decide (Γ[v]? = some .fz)
theorem fzAll_of {Γ : List Kd} {vs : List Nat} (h : fzAll Γ vs = true) {v : Nat} (hv : v ∈ vs) : Γ[v]? = some .fz := by
  unfold fzAll at h
  rw [List.all_eq_true] at h
  simpa using h v hv
section
variable {C : Fx} {Γ : List Kd} {F F' H H' : Hp} {ρ ρ' : Env} {σ : L2.St} {vs : List Nat}
theorem ow1_wipe (h : fzAll Γ vs = true) {i : Nat} {a : Addr} : Ow1 Γ (wipe σ vs) i a ↔ Ow1 Γ σ i a := by
  unfold Ow1
  refine and_congr_right fun hk => ?_
  have hi : i ∉ vs := fun z => by
    have := fzAll_of h z
    rw [this] at hk
    rcases hk with hk | hk <;> cases hk
  rw [wp_out hi]
theorem own_wipe (h : fzAll Γ vs = true) {a : Addr} : Own Γ (wipe σ vs) a ↔ Own Γ σ a := exists_congr fun _ => ow1_wipe h
theorem io_out (h : fzAll Γ vs = true) {i : Nat} {k : Kd} (hk : Γ[i]? = some k) (hn : k ≠ .fz) : i ∉ vs := fun z => by
  have := fzAll_of h z
  rw [this] at hk
  cases hk
  exact hn rfl
theorem RS.wipe (r : RS C Γ F ρ σ H) (h : fzAll Γ vs = true) : RS C Γ F (wpE ρ vs) (wipe σ vs) H where
  sub := r.sub
  ext := r.ext
  ln := by rw [wpE_len, wipe_length, r.ln]
  lg := by rw [wipe_length, r.lg]
  no := fun i hi => by
    have hl : i < ρ.length := by have := (List.getElem?_eq_some_iff.mp hi).1; rwa [wpE_len] at this
    by_cases z : i ∈ vs
    · exact wp_in (by rw [← r.ln]; exact hl) z
    · rw [wpE_out z] at hi
      rw [wp_out z]
      exact r.no i hi
  fz := fun i d h1 h2 => by
    have hl : i < ρ.length := by have := (List.getElem?_eq_some_iff.mp h2).1; rwa [wpE_len] at this
    by_cases z : i ∈ vs
    · rw [wpE_in hl z] at h2; cases h2
    · rw [wpE_out z] at h2
      rw [wp_out z]
      exact r.fz i d h1 h2
  ow := fun i d k h1 h2 h3 => by
    have z := io_out h h1 h2
    rw [wpE_out z] at h3
    rw [wp_out z]
    exact r.ow i d k h1 h2 h3
  dj := fun i j a h1 h2 => r.dj i j a ((ow1_wipe h).mp h1) ((ow1_wipe h).mp h2)
  hio := fun p hp => by
    obtain ⟨h1, h2, h3⟩ := r.hio p hp
    have z := io_out h h1 (by decide)
    rw [wp_out z, wpE_out z]
    exact ⟨h1, h2, h3⟩
theorem RS.back (r0 : RS C Γ F ρ σ H) (sm : Same F F') (r : RS C Γ F' (wpE ρ' vs) (L2.wipe σ vs) H') (h : fzAll Γ vs = true) : RS C Γ F' (rsE ρ' ρ vs) σ H' where
  sub := r.sub
  ext := r.ext
  ln := by have := r.ln; rw [wpE_len, wipe_length] at this; rw [rsE_len, this]
  lg := r0.lg
  no := fun i hi => by
    have hl : i < ρ'.length := by have := (List.getElem?_eq_some_iff.mp hi).1; rwa [rsE_len] at this
    by_cases z : i ∈ vs
    · have hl0 : i < ρ.length := by have := r.ln; rw [wpE_len, wipe_length] at this; rw [r0.ln, ← this]; exact hl
      rw [rsE_in hl hl0 z] at hi
      exact r0.no i hi
    · rw [rsE_out z] at hi
      have := r.no i (by rw [wpE_out z]; exact hi)
      rwa [wp_out z] at this
  fz := fun i d h1 h2 => by
    have hl : i < ρ'.length := by have := (List.getElem?_eq_some_iff.mp h2).1; rwa [rsE_len] at this
    by_cases z : i ∈ vs
    · have hl0 : i < ρ.length := by have := r.ln; rw [wpE_len, wipe_length] at this; rw [r0.ln, ← this]; exact hl
      rw [rsE_in hl hl0 z] at h2
      obtain ⟨u, e1, e2⟩ := r0.fz i d h1 h2
      exact ⟨u, e1, e2.mono sm⟩
    · rw [rsE_out z] at h2
      obtain ⟨u, e1, e2⟩ := r.fz i d h1 (by rw [wpE_out z]; exact h2)
      rw [wp_out z] at e1
      exact ⟨u, e1, e2⟩
  ow := fun i d k h1 h2 h3 => by
    have z := io_out h h1 h2
    rw [rsE_out z] at h3
    obtain ⟨a, o, e1, e2⟩ := r.ow i d k h1 h2 (by rw [wpE_out z]; exact h3)
    rw [wp_out z] at e1
    exact ⟨a, o, e1, e2⟩
  dj := r0.dj
  hio := fun p hp => by
    obtain ⟨h1, h2, h3⟩ := r.hio p hp
    have z := io_out h h1 (by decide)
    rw [wp_out z] at h2
    rw [wpE_out z] at h3
    rw [rsE_out z]
    exact ⟨h1, h2, h3⟩
/-- a nobody's object, not there at the entry, is written -/
theorem RS.wrNew (r : RS C Γ F ρ σ H) {p : Addr} {o : HO} (h0 : C.H0 p = none) (hp : H p ≠ none) (hf : F p = none) (nO : ¬ Own Γ σ p) : RS C Γ F ρ σ (upd H p o) where
  sub := same_updH r.sub hf
  ext := ⟨r.ext.f, r.ext.g, fun b x e hb => by
    have nb : b ≠ p := ne_of_none e h0
    rw [upd_ne nb]; exact r.ext.h b x e hb, fun b hb => by
    by_cases z : b = p
    · subst z; rw [upd_same]; simp
    · rw [upd_ne z]; exact r.ext.n b hb⟩
  ln := r.ln
  lg := r.lg
  no := r.no
  fz := r.fz
  ow := fun j d k k1 k2 k3 => by
    obtain ⟨a, o', z1, z2, z3, z4⟩ := r.ow j d k k1 k2 k3
    have ne : a ≠ p := fun z => by
      subst z
      refine nO ⟨j, ?_, z1⟩
      cases k with
      | fz => exact absurd rfl k2
      | ow => exact .inl k1
      | io => exact .inr k1
    exact ⟨a, o', z1, z2, by rw [upd_ne ne]; exact z3, z4⟩
  dj := r.dj
  hio := r.hio
end
/-! ### one clause -/
def lcT (vs : List Nat) (g : MG) (t : M Bool) (e : M D) (d : D) : M (Option D) := fun ρ => match g d (wpE ρ vs) with
  | none => .no
  | some ρ1 => match t ρ1 with
    | .ok b ρ2 => if b = true then (match e ρ2 with
        | .ok y ρ3 => .ok (some y) ρ3
        | _ => .no) else .ok none ρ2
    | _ => .no
def lcG (vs : List Nat) (g : MG) (t : M Bool) (e : M D) : List D → List D → M (List D)
  | acc, [] => M.ret acc
  | acc, d :: ds => fun ρ => match lcT vs g t e d ρ with
    | .ok (some y) ρ' => if acc.length < sizeLine then lcG vs g t e (acc ++ [y]) ds ρ' else .no
    | .ok none ρ' => lcG vs g t e acc ds ρ'
    | _ => .no
def lcA (vs : List Nat) (g : MG) (t : M Bool) (e : M D) (ds : List D) : M D := fun ρ => match lcG vs g t e [] ds ρ with
  | .ok r ρ' => .ok (.lst r) (rsE ρ' ρ vs)
  | _ => .no
theorem lcT_inv {vs : List Nat} {g : MG} {t : M Bool} {e : M D} {d : D} {ρ ρ' : Env} {r : Option D} (h : lcT vs g t e d ρ = .ok r ρ') :
    ∃ ρ1 b ρ2, g d (wpE ρ vs) = some ρ1 ∧ t ρ1 = .ok b ρ2 ∧ ((b = false ∧ r = none ∧ ρ' = ρ2) ∨ (b = true ∧ ∃ y, e ρ2 = .ok y ρ' ∧ r = some y)) := by
  unfold lcT at h
  cases e1 : g d (wpE ρ vs) with
  | none => simp only [e1] at h; cases h
  | some ρ1 =>
    simp only [e1] at h
    cases e2 : t ρ1 with
    | no => simp only [e2] at h; cases h
    | er x ρ2 => simp only [e2] at h; cases h
    | ok b ρ2 =>
      simp only [e2] at h
      cases b with
      | false => simp only [Bool.false_eq_true, if_false] at h; cases h; exact ⟨ρ1, _, _, rfl, e2, .inl ⟨rfl, rfl, rfl⟩⟩
      | true =>
        simp only [if_true] at h
        cases e3 : e ρ2 with
        | no => simp only [e3] at h; cases h
        | er x ρ3 => simp only [e3] at h; cases h
        | ok y ρ3 => simp only [e3] at h; cases h; exact ⟨ρ1, _, _, rfl, e2, .inr ⟨rfl, y, e3, rfl⟩⟩
theorem lcG_inv {vs : List Nat} {g : MG} {t : M Bool} {e : M D} {d : D} {acc ds : List D} {ρ ρe : Env} {r : List D} (h : lcG vs g t e acc (d :: ds) ρ = .ok r ρe) :
    ∃ z ρ', lcT vs g t e d ρ = .ok z ρ' ∧ (z = none → lcG vs g t e acc ds ρ' = .ok r ρe) ∧ (∀ y, z = some y → acc.length < sizeLine ∧ lcG vs g t e (acc ++ [y]) ds ρ' = .ok r ρe) := by
  unfold lcG at h
  cases e1 : lcT vs g t e d ρ with
  | no => simp only [e1] at h; cases h
  | er x ρ' => simp only [e1] at h; cases h
  | ok z ρ' =>
    simp only [e1] at h
    refine ⟨z, ρ', rfl, fun ez => by subst ez; exact h, fun y ey => ?_⟩
    subst ey
    simp only at h
    split at h
    · rename_i hz; exact ⟨hz, h⟩
    · cases h
def mLc (vs : List Nat) (it : M (List D)) (g : MG) (t : M Bool) (e : M D) : M D := it.bind fun ds => lcA vs g t e ds
def mYes : M Bool := M.ret true
def EvTs (X : Cx) (S : Sg) (Γ : List Kd) (ifs : List Expr) (m : M Bool) : Prop := PTs X ifs (Tr S Γ rB m)
theorem pts_imp {X : Cx} {e : List Expr} {t t' : TT} (h : PTs X e t) (k : ∀ σ H Q, t' σ H Q → t σ H Q) : PTs X e t' := ⟨fun pins s σ H Q I q => h.run pins s σ H Q I (k _ _ _ q)⟩
theorem ts_nil {X : Cx} {S : Sg} {Γ : List Kd} : EvTs X S Γ [] mYes := pts_imp pts_nil fun σ H Q ⟨F, h⟩ => h.ret0 rfl
theorem ts_one {X : Cx} {S : Sg} {Γ : List Kd} {c : Expr} {m : M Bool} (h : EvT X S Γ c m) : EvTs X S Γ [c] m := pts_one h
/-- within a block nothing leaves -/
abbrev Sg.bk (S : Sg) : Sg := { S with W := fun _ _ _ _ => False, ge := none }
theorem wipe_only {is vs : List Nat} {σ σ' : L2.St} (h : OnlyS is σ σ') (hi : ∀ i ∈ is, i ∈ vs) : wipe σ' vs = wipe σ vs := by
  refine List.ext_getElem? fun i => ?_
  by_cases z : i ∈ vs
  · by_cases hl : i < σ.length
    · rw [wp_in (by rw [h.1]; exact hl) z, wp_in hl z]
    · rw [List.getElem?_eq_none (by rw [wipe_length, h.1]; omega), List.getElem?_eq_none (by rw [wipe_length]; omega)]
  · rw [wp_out z, wp_out z]
    exact h.2 i fun y => z (hi i y)
theorem only_wipe {vs : List Nat} {σ : L2.St} : OnlyS vs σ (wipe σ vs) := ⟨wipe_length _ _, fun i hi => wp_out hi⟩
theorem tr_lc {S : Sg} {Γ : List Kd} {vs is : List Nat} {g : MG} {t : M Bool} {e : M D} {m : M (List D)} (hv : fzAll Γ vs = true) (hi : ∀ i ∈ is, i ∈ vs) {σ : L2.St} {H : Hp} {Q : VK} (h : Tr S Γ (rO S) (mLc vs m g t e) σ H Q) :
    tLc (Tr S Γ (rI S) m) (TgT S.bk Γ Γ is g) (Tr S.bk Γ rB t) (Tr S.bk Γ (rD S.bk) e) vs σ H Q := by
  obtain ⟨F, h⟩ := h
  refine ⟨F, (TrF.bind (R1 := rI S) rO_late h).mono fun J H1 ⟨ds, F1, q, x1, h⟩ => ?_⟩
  intro L hL
  obtain ⟨ρ1, rs1, h⟩ := h
  have hF1 : F1 L = none := rs1.sub.free hL
  cases eg : lcG vs g t e [] ds ρ1 with
  | no => unfold lcA at h; rw [eg] at h; exact h.elim
  | er x ρ' => unfold lcA at h; rw [eg] at h; exact h.elim
  | ok r ρe =>
    have h : ∀ v F' H', RS S.C Γ F' (rsE ρe ρ1 vs) σ H' → Ext (Own Γ σ) F1 H1 F' H' → rO S H1 F' H' (.lst r) v → Q v H' := by
      have h2 := h
      unfold lcA at h2
      rw [eg] at h2
      exact h2
    refine ⟨fun i m H => ∃ F2 ρ2 acc av, Same F1 F2 ∧ RS S.C Γ F2 (wpE ρ2 vs) (wipe σ vs) H ∧ Ext (fun b => Own Γ σ b ∨ b = L) F1 (upd H1 L (.lst [])) F2 H ∧ H L = some (.lst av) ∧ F2 L = none ∧ RpL S.C.K S.C.ct F2 acc av ∧ i ≤ ds.length ∧ m = ds.length - i ∧ lcG vs g t e acc (ds.drop i) ρ2 = .ok r ρe,
      ⟨ds.length, F1, ρ1, [], [], Same.refl _, (rs1.newH hL).wipe hv, Ext.refl, upd_same, hF1, rpl_nil.mpr rfl, Nat.zero_le _, by simp, by simpa using eg⟩, ?_⟩
    rintro i m H ⟨F2, ρ2, acc, av, sm, rs2, x2, hl, hF2, ra, hle, rfl, eq⟩
    have it := q F2 H i sm rs2.sub
    have nO : ¬ Own Γ σ L := fun z => by
      obtain ⟨_, o, e⟩ := rs1.own_some z
      rw [hL] at e; cases e
    by_cases hlt : i < ds.length
    · refine .inr ?_
      have hd : ds[i]? = some ds[i] := List.getElem?_eq_getElem hlt
      obtain ⟨go, yl⟩ := it.2 _ hd
      rw [List.drop_eq_getElem_cons hlt] at eq
      obtain ⟨z, ρ9, eT, zn, zs⟩ := lcG_inv eq
      obtain ⟨ρ3, b, ρ4, e1, e2, e3⟩ := lcT_inv eT
      refine ⟨go, fun H' => ∃ F3 ρ3 acc' av', Same F2 F3 ∧ RS S.C Γ F3 (wpE ρ3 vs) (wipe σ vs) H' ∧ Ext (fun b => Own Γ σ b ∨ b = L) F2 H F3 H' ∧ H' L = some (.lst av') ∧ F3 L = none ∧ RpL S.C.K S.C.ct F3 acc' av' ∧ lcG vs g t e acc' (ds.drop (i + 1)) ρ3 = .ok r ρe,
        fun H' ⟨F3, ρ3, acc', av', s3, rs3, x3, hl3, hF3, ra3, e3⟩ => ⟨ds.length - (i + 1), by omega, F3, ρ3, acc', av', sm.trans s3, rs3, x2.trans x3, hl3, hF3, ra3, hlt, rfl, e3⟩, fun x H' y => ?_⟩
      obtain ⟨F3, gw, rp⟩ := yl x H' y
      have st3 : RS S.C Γ F3 (wpE ρ2 vs) (wipe σ vs) H' ∧ Ext (fun b => Own Γ σ b ∨ b = L) F2 H F3 H' ∧ H' L = some (.lst av) ∧ F3 L = none := by
        cases gw with
        | same => exact ⟨rs2, Ext.refl, hl, hF2⟩
        | new hp =>
          have np : L ≠ _ := ne_of_none hl hp
          exact ⟨rs2.newF hp, Ext.newF rs2.sub hp, by rw [upd_ne np]; exact hl, by rw [upd_ne np]; exact hF2⟩
      obtain ⟨rs3, x3, hl3, hF3⟩ := st3
      refine ⟨F3, wpE ρ2 vs, ds[i], ρ3, rs3, rp, e1, fun σ3 o3 rs4 => ?_⟩
      have w3 : wipe σ3 vs = wipe σ vs := (wipe_only o3 hi).trans (wipe_only only_wipe fun _ z => z)
      refine ⟨w3, F3, ρ3, rs4, ?_⟩
      have own3 : ∀ {b}, Own Γ σ3 b → Own Γ σ b := fun {b} z => by
        have z1 := (own_wipe (vs := vs) hv).mpr z
        rw [w3] at z1
        exact (own_wipe hv).mp z1
      have back : ∀ {F4 ρ4 H4}, RS S.C Γ F4 ρ4 σ3 H4 → RS S.C Γ F4 (wpE ρ4 vs) (wipe σ vs) H4 := fun {F4 ρ4 H4} z => by
        have := z.wipe (vs := vs) hv
        rwa [w3] at this
      have free : ∀ {F4 H4 F5 H5}, Ext (Own Γ σ3) F4 H4 F5 H5 → H4 L = some (.lst av) → F4 L = none → Ext (fun b => Own Γ σ b ∨ b = L) F4 H4 F5 H5 ∧ H5 L = some (.lst av) ∧ F5 L = none := fun {F4 H4 F5 H5} x4 q1 q2 => by
        refine ⟨x4.sub fun c z => .inl (.inl (own3 z)), x4.h L _ q1 fun z => nO (own3 z), ?_⟩
        cases ef : F5 L with
        | none => rfl
        | some o =>
          rcases x4.g L (by rw [ef]; simp) with z | z
          · exact absurd q2 z
          · rw [q1] at z; cases z
      rw [e2]
      intro v F4 H4 rs5 x4 qb
      cases (show b = v from qb)
      obtain ⟨x4', hl4, hF4⟩ := free x4 hl3 hF3
      rcases e3 with ⟨rfl, rfl, rfl⟩ | ⟨rfl, yy, e3, rfl⟩
      · exact iteF ⟨F4, ρ9, acc, av, x3.f.trans x4.f, back rs5, x3.trans x4', hl4, hF4, ra.mono (x3.f.trans x4.f), zn rfl⟩
      · refine iteT ⟨F4, ρ4, rs5, ?_⟩
        rw [e3]
        intro v F5 H5 rs6 x5 qd
        obtain ⟨x5', hl5, hF5⟩ := free x5 hl4 hF4
        obtain ⟨hz, eq2⟩ := zs yy rfl
        have ra5 := ra.mono ((x3.f.trans x4.f).trans x5.f)
        have h0 : S.C.H0 L = none := by
          cases e0 : S.C.H0 L with
          | none => rfl
          | some y => exact absurd hL (rs1.ext.n L (by rw [e0]; simp))
        exact ⟨av, hl5, by rw [← ra.length]; exact hz, F5, ρ9, acc ++ [yy], av ++ [v], (x3.f.trans x4.f).trans x5.f, (back rs6).wrNew h0 (by rw [hl5]; simp) hF5 (fun z => nO ((own_wipe hv).mp z)), (x3.trans (x4'.trans x5')).trans (Ext.wr (.inr rfl)), upd_same, hF5, ra5.append (.one qd), eq2⟩
    · have e0 : i = ds.length := by omega
      refine .inl ⟨it.1 e0, ?_⟩
      subst e0
      rw [List.drop_length] at eq
      unfold lcG at eq
      cases eq
      refine h _ F2 H (rs1.back sm rs2 hv) ?_ ⟨L, _, rfl, hL, hF2, hl, .lst ra⟩
      have y1 : Ext (fun b => Own Γ σ b ∨ b = L) F1 H1 F2 H := (Ext.newH hL).trans x2
      exact y1.sub fun c z => z.elim .inl fun z => .inr (by rw [z]; exact hL)
section
variable {X : Cx} {S : Sg} {Γ : List Kd} {pos : Pos}
theorem o_lc {elt tg iter : Expr} {ifs : List Expr} {scope : Scope} {own : List (Str × Nat)} {m : M (List D)} {g : MG} {t : M Bool} {e : M D} {is : List Nat} (hc : X.calm = true) (hN : X.N.Nodup) (hi : EvI X S Γ tg iter m) (ok : blkC X.N X.env.scope scope own = true)
    (hg : ∀ (s : Shared) (H : Hp) (C : Addr) (cl : List (Str × Addr)) (fp : List Addr), EvG (X.blk s H scope (compEnvC scope cl C X.env) fp) S.bk Γ Γ is tg g) (ht : ∀ (s : Shared) (H : Hp) (C : Addr) (cl : List (Str × Addr)) (fp : List Addr), EvTs (X.blk s H scope (compEnvC scope cl C X.env) fp) S.bk Γ ifs t)
    (he : ∀ (s : Shared) (H : Hp) (C : Addr) (cl : List (Str × Addr)) (fp : List Addr), EvE (X.blk s H scope (compEnvC scope cl C X.env) fp) S.bk Γ elt e) (hv : fzAll Γ (own.map (·.2)) = true := by rfl) (hI : ∀ i ∈ is, i ∈ own.map (·.2) := by decide) (hs : ∀ x, foldedSetIterable iter X.env x = pure x := by intro _; rfl) :
    EvO X S Γ (.ListComp elt [⟨tg, iter, ifs, 0⟩] scope pos) (mLc (own.map (·.2)) m g t e) :=
  pe_imp (pe_lc hc hN hi (blkOk_by ok) hg ht he hs) fun σ H Q h => tr_lc hv hI h
/-- name = [..] on one line -/
theorem s_setLc {i : Nat} {y : Str} {py spos : Pos} {elt tg iter : Expr} {ifs : List Expr} {scope : Scope} {own : List (Str × Nat)} {m : M (List D)} {g : MG} {t : M Bool} {e : M D} {is : List Nat} (hc : X.calm = true) (hN : X.N.Nodup) (hy : X.N[i]? = some y) (hyl : X.env.scope.names.lookup y = some .local)
    (hsw : swapsWith (.ListComp elt [⟨tg, iter, ifs, 0⟩] scope pos) (some (.Name y py)) spos.line X.env = pure true) (hk : ∃ k, Γ[i]? = some k ∧ k ≠ .io) (hi : EvI X S Γ tg iter m) (ok : blkC X.N X.env.scope scope own = true)
    (hg : ∀ (s : Shared) (H : Hp) (C : Addr) (cl : List (Str × Addr)) (fp : List Addr), EvG (X.blk s H scope (compEnvC scope cl C X.env) fp) S.bk Γ Γ is tg g) (ht : ∀ (s : Shared) (H : Hp) (C : Addr) (cl : List (Str × Addr)) (fp : List Addr), EvTs (X.blk s H scope (compEnvC scope cl C X.env) fp) S.bk Γ ifs t)
    (he : ∀ (s : Shared) (H : Hp) (C : Addr) (cl : List (Str × Addr)) (fp : List Addr), EvE (X.blk s H scope (compEnvC scope cl C X.env) fp) S.bk Γ elt e) (hv : fzAll Γ (own.map (·.2)) = true := by rfl) (hI : ∀ i ∈ is, i ∈ own.map (·.2) := by decide) (hs : ∀ x, foldedSetIterable iter X.env x = pure x := by intro _; rfl) :
    EvS X S Γ (Γ.set i .ow) (.Assign [.Name y py] (.ListComp elt [⟨tg, iter, ifs, 0⟩] scope pos) spos) (mSet i (mLc (own.map (·.2)) m g t e)) :=
  ps_imp (ps_setLc hc hN hy hyl hsw hi (blkOk_by ok) hg ht he hs) fun D σ H h => by
    obtain ⟨F, ρ, rs0, h⟩ := h
    refine tr_lc hv hI ⟨F, (TsF.of (R := rO S) rs0 h).mono fun v H1 ⟨d, F1, ρ1, q, x1, rs, h⟩ => ?_⟩
    obtain ⟨a, o, rfl, h1, h2, h3, h4⟩ := q
    refine h _ F1 H1 (Same.refl _) (rs.setO hk h4 h2 h3 ?_ ?_)
    · cases e0 : S.C.H0 a with
      | none => rfl
      | some y => exact absurd h1 (rs0.ext.n a (by rw [e0]; simp))
    · intro z
      obtain ⟨_, o', z⟩ := rs0.own_some z
      rw [h1] at z
      cases z
end
end G
/-! G10: functions: their promise by a mirror; the body keeps it; calls. -/
namespace G
open PySem PySem.Spec PyProof.Rows L2
/-- what a call gives: a result and the objects handed in to be changed, as they stand behind it -/
inductive FR where
  | ok (d : D) (outs : List D) | er (x : Ex) (outs : List D) | no
abbrev MFn := List D → FR
/-! ### how arguments lie -/
def ArL (K : Frag) (ct : Ct) (F H : Hp) : List Kd → List D → List V → Prop
  | [], ds, vs => ds = [] ∧ vs = []
  | .fz :: ks, ds, vs => ∃ d ds' v vs', ds = d :: ds' ∧ vs = v :: vs' ∧ Rp K ct F d v ∧ ArL K ct F H ks ds' vs'
  | _ :: ks, ds, vs => ∃ d ds' a vs' o, ds = d :: ds' ∧ vs = .ref a :: vs' ∧ F a = none ∧ H a = some o ∧ OwO K ct F d o ∧ ArL K ct F H ks ds' vs'
def ioA : List Kd → List V → List Addr
  | .fz :: ks, _ :: vs => ioA ks vs
  | _ :: ks, .ref a :: vs => a :: ioA ks vs
  | _, _ => []
def OutOk (K : Frag) (ct : Ct) (F H : Hp) (outs : List D) (as : List Addr) : Prop := Paired (fun d a => F a = none ∧ ∃ o, H a = some o ∧ OwO K ct F d o) outs as
/-- what a call's result is, H the heap at its start -/
def RtC (K : Frag) (ct : Ct) (ro : Bool) (H F' H' : Hp) (d : D) (v : V) : Prop := if ro = true then (∃ a o, v = .ref a ∧ H a = none ∧ F' a = none ∧ H' a = some o ∧ OwO K ct F' d o) else Rp K ct F' d v
/-- the promise -/
def SpG (K : Frag) (ct : Ct) (ks : List Kd) (ro : Bool) (MF : MFn) : Sp := fun vs H Q E => ∃ F ds, Same F H ∧ ArL K ct F H ks ds vs ∧ (ioA ks vs).Nodup ∧ match MF ds with
  | .ok d outs => ∀ v F' H', Ext (fun a => a ∈ ioA ks vs) F H F' H' → Same F' H' → RtC K ct ro H F' H' d v → OutOk K ct F' H' outs (ioA ks vs) → Q v H'
  | .er x outs => ∀ cl dx F' H', Ext (fun a => a ∈ ioA ks vs) F H F' H' → Same F' H' → RX K ct F' H' x cl dx → OutOk K ct F' H' outs (ioA ks vs) → E cl dx H'
  | .no => False
theorem ArL.len {K : Frag} {ct : Ct} {F H : Hp} : ∀ {ks : List Kd} {ds : List D} {vs : List V}, ArL K ct F H ks ds vs → ds.length = ks.length ∧ vs.length = ks.length
  | [], ds, vs, h => by obtain ⟨rfl, rfl⟩ := h; exact ⟨rfl, rfl⟩
  | .fz :: ks, ds, vs, h => by obtain ⟨d, ds', v, vs', rfl, rfl, _, h⟩ := h; have := h.len; simp [this.1, this.2]
  | .ow :: ks, ds, vs, h => by obtain ⟨d, ds', v, vs', o, rfl, rfl, _, _, _, h⟩ := h; have := h.len; simp [this.1, this.2]
  | .io :: ks, ds, vs, h => by obtain ⟨d, ds', v, vs', o, rfl, rfl, _, _, _, h⟩ := h; have := h.len; simp [this.1, this.2]
/-- guards -/
structure FnG (P : Program) (w : World) (K : Frag) (mg : Str → Option Value) (base : Heap) (CX : CXT) (k : Nat) (f : Addr) (fd : FuncData) (ps : List Str) (sp : Sp) : Prop where
  len : ∀ vs H Q E, sp vs H Q E → vs.length = ps.length
  run : ∀ (A : Around) (outer : List PySem.Env) (s : Shared) (H : Hp) (args : Args) (us : List Value) (vs : List V) (Q : VK) (E : XK), A.guards = some [] → Room k A → Env0 P w K mg base A outer s H → BindsTo s fd args (ps.zip us) → Vals vs us → sp vs H Q E →
    codeAny (model P w) A (.call (.ref f) args) (CR CX outer P w H s Q E) s
theorem FnG.mono {P : Program} {w : World} {K : Frag} {mg : Str → Option Value} {base : Heap} {CX : CXT} {j k : Nat} {f : Addr} {fd : FuncData} {ps : List Str} {sp : Sp} (F : FnG P w K mg base CX j f fd ps sp) (h : j ≤ k) : FnG P w K mg base CX k f fd ps sp :=
  ⟨F.len, fun A outer s H args us vs Q E hg hr => F.run A outer s H args us vs Q E hg (hr.mono h)⟩
theorem deeper_guards {A : Around} (h : A.guards = some []) (e : PySem.Env) : (A.deeper e).guards = some [] := by
  first | exact h | (simp [Around.deeper, h]) | (unfold Around.deeper; exact h)
theorem make_guards {A : Around} (h : A.guards = some []) (C : Addr) (us : List Value) (kw : List (Str × Value)) : (A.under (.builtin "type.__call__" ⟨.ref C :: us, kw⟩)).guards = some [] := by
  simp [Around.under, h, Code.guards, Code.isGuard, pushGuards, guardIds]
/-- THE RULE: a def of the text, by its body -/
theorem fn_any {CX : CXT} {P : Program} {w : World} {K : Frag} {mg : Str → Option Value} {base : Heap} {k : Nat} {f : Addr} {x qual : Str} {params : Arguments} {body : List Stmt} {scope : Scope} {dvs : List V} {kws : List (Str × V)} {fd : FuncData}
    {N ps : List Str} {sp : Sp} (Fd : FunD K x qual params body scope dvs kws f fd) (S : FnScope N ps scope) (len : ∀ vs H Q E, sp vs H Q E → vs.length = ps.length)
    (hbody : ∀ (cdv : Value) (A : Around) (outer : List PySem.Env) (s : Shared) (H : Hp) (vs : List V) (Q : VK) (E : XK), A.guards = some [] → Room k (A.deeper (envOfC qual scope s.heap.objs.size f cdv)) → sp vs H Q E →
      ∃ t, PSs (cxOf CX P w K mg base N qual scope f cdv A outer s H E) body t ∧ t { nx := fun _ H' => Q .non H', rt := Q } (start N vs) H) :
    FnG P w K mg base CX (k + 1) f fd ps sp := by
  obtain ⟨oc, od, dV, kV, doc, pm, an, cdv, ct, osl, rfl, lk, hcd, _, _⟩ := Fd.ex
  refine ⟨len, fun A outer s H args us vs Q E hgd hr e0 hb r hsp => ?_⟩
  have hl := len _ _ _ _ hsp
  have KX : K.In s.heap := e0.mod.kin.keeps fun b o e => (e0.bs b o e).1
  have lim : s.heap.NoLimit := e0.mod.nolimit.keeps fun b o e => (e0.bs b o e).1
  have hkind : ∀ y ∈ ps.zip us, scope.names.lookup y.1 = some .local ∨ (scope.names.lookup y.1 = some .cell ∧ ((cellsFrom (s.heap.objs.size + 1) scope.names []).lookup y.1).isSome = true) := fun ⟨n, v⟩ hy => by
    rcases S.par n (List.of_mem_zip hy).1 with q | q
    · exact .inl q
    · exact .inr ⟨q, PySem.W.cellsFrom_some _ _ _ (.inl q)⟩
  refine codeAny_call_function hr.depth (KX _ _ lk) rfl S.co S.gen rfl (PySem.W.codeRec_of KX hcd) (hb _ _ _ _ ?_)
  refine wpAny_newFunctionEnv_cells S.kind hkind fun env he s1 x => ?_
  subst he
  refine ⟨lim.keeps x.toInCall.keep, codeAny_func ?_⟩
  obtain ⟨t, ht, hq⟩ := hbody cdv A outer s H vs Q E hgd (hr.deeper _) hsp
  have I : Inv (cxOf CX P w K mg base N qual scope f cdv A outer s H E) [] (start N vs) H s1 := inv_start S hr.hd e0 hl r x
  refine wpAny_mono (ht.run [] s1 (start N vs) H _ I hq) (fun fl s' hs => ?_) fun e s' hs => hs
  have fin : ∀ {σ' : L2.St} {H' : Hp} {v : V} {u : Value}, Inv (cxOf CX P w K mg base N qual scope f cdv A outer s H E) [] σ' H' s' → RelV v u → Q v H' → CE outer P w H s Q u s' :=
    fun {σ' H' v u} J rv q => ⟨v, H', J.os, J.bare, J.base, J.hok, rv, q⟩
  cases fl with
  | ret u =>
    obtain ⟨v, σ', H', J, rv, q⟩ := hs
    exact fin J rv q
  | next =>
    obtain ⟨σ', H', J, q⟩ := hs
    exact fin (v := V.non) (u := Value.none) J rfl q
  | brk =>
    obtain ⟨_, _, _, q⟩ := hs
    exact False.elim q
  | cont =>
    obtain ⟨_, _, _, q⟩ := hs
    exact False.elim q
/-! ### the body by its mirror -/
def ioIx : List Kd → Nat → List Nat
  | [], _ => []
  | .fz :: ks, n => ioIx ks (n + 1)
  | _ :: ks, n => n :: ioIx ks (n + 1)
def outsE (ρ : Env) : List Nat → List D
  | [] => []
  | i :: is => match ρ[i]? with
    | some (some d) => d :: outsE ρ is
    | _ => outsE ρ is
def stE (n : Nat) (ds : List D) : Env := ds.map some ++ List.replicate (n - ds.length) none
def mFn (n : Nat) (ks : List Kd) (ro : Bool) (b : MS) : MFn := fun ds => match b (stE n ds) with
  | .nx ρ => if ro = true then .no else .ok .non (outsE ρ (ioIx ks 0))
  | .rt d ρ => .ok d (outsE ρ (ioIx ks 0))
  | .er x ρ => .er x (outsE ρ (ioIx ks 0))
  | _ => .no
def iosL : List Kd → List V → Nat → List (Nat × Addr)
  | .fz :: ks, _ :: vs, n => iosL ks vs (n + 1)
  | _ :: ks, .ref a :: vs, n => (n, a) :: iosL ks vs (n + 1)
  | _, _, _ => []
section
variable {K : Frag} {ct : Ct} {F H : Hp}
theorem iosL_mem {ks : List Kd} {ds : List D} {vs : List V} (h : ArL K ct F H ks ds vs) (hk : ∀ k ∈ ks, k ≠ .ow) : ∀ {n i : Nat} {a : Addr}, (i, a) ∈ iosL ks vs n ↔ ∃ j, i = n + j ∧ ks[j]? = some .io ∧ vs[j]? = some (.ref a) := by
  induction ks generalizing ds vs with
  | nil => obtain ⟨rfl, rfl⟩ := h; intro n i a; simp [iosL]
  | cons k ks ih =>
    intro n i a
    cases k with
    | ow => exact absurd rfl (hk _ List.mem_cons_self)
    | fz =>
      obtain ⟨d, ds', v, vs', rfl, rfl, _, h⟩ := h
      simp only [iosL]
      rw [ih h (fun k z => hk k (List.mem_cons_of_mem _ z))]
      constructor
      · rintro ⟨j, e, e1, e2⟩; exact ⟨j + 1, by omega, by simpa using e1, by simpa using e2⟩
      · rintro ⟨j, e, e1, e2⟩
        cases j with
        | zero => simp at e1
        | succ j => exact ⟨j, by omega, by simpa using e1, by simpa using e2⟩
    | io =>
      obtain ⟨d, ds', b, vs', o, rfl, rfl, _, _, _, h⟩ := h
      simp only [iosL, List.mem_cons, Prod.mk.injEq]
      rw [ih h (fun k z => hk k (List.mem_cons_of_mem _ z))]
      constructor
      · rintro (⟨rfl, rfl⟩ | ⟨j, e, e1, e2⟩)
        · exact ⟨0, rfl, rfl, rfl⟩
        · exact ⟨j + 1, by omega, by simpa using e1, by simpa using e2⟩
      · rintro ⟨j, e, e1, e2⟩
        cases j with
        | zero => simp at e2; exact .inl ⟨by omega, e2.symm⟩
        | succ j => exact .inr ⟨j, by omega, by simpa using e1, by simpa using e2⟩
theorem iosL_snd {ks : List Kd} {ds : List D} {vs : List V} (h : ArL K ct F H ks ds vs) (hk : ∀ k ∈ ks, k ≠ .ow) : ∀ {n : Nat}, (iosL ks vs n).map (·.2) = ioA ks vs := by
  induction ks generalizing ds vs with
  | nil => obtain ⟨rfl, rfl⟩ := h; intro n; rfl
  | cons k ks ih =>
    intro n
    cases k with
    | ow => exact absurd rfl (hk _ List.mem_cons_self)
    | fz =>
      obtain ⟨d, ds', v, vs', rfl, rfl, _, h⟩ := h
      exact ih h fun k z => hk k (List.mem_cons_of_mem _ z)
    | io =>
      obtain ⟨d, ds', b, vs', o, rfl, rfl, _, _, _, h⟩ := h
      simp only [iosL, ioA, List.map_cons]
      rw [ih h fun k z => hk k (List.mem_cons_of_mem _ z)]
theorem iosL_fst {ks : List Kd} {ds : List D} {vs : List V} (h : ArL K ct F H ks ds vs) (hk : ∀ k ∈ ks, k ≠ .ow) : ∀ {n : Nat}, (iosL ks vs n).map (·.1) = ioIx ks n := by
  induction ks generalizing ds vs with
  | nil => obtain ⟨rfl, rfl⟩ := h; intro n; rfl
  | cons k ks ih =>
    intro n
    cases k with
    | ow => exact absurd rfl (hk _ List.mem_cons_self)
    | fz =>
      obtain ⟨d, ds', v, vs', rfl, rfl, _, h⟩ := h
      exact ih h fun k z => hk k (List.mem_cons_of_mem _ z)
    | io =>
      obtain ⟨d, ds', b, vs', o, rfl, rfl, _, _, _, h⟩ := h
      simp only [iosL, ioIx, List.map_cons]
      rw [ih h fun k z => hk k (List.mem_cons_of_mem _ z)]
theorem ArL.get {ks : List Kd} {ds : List D} {vs : List V} (h : ArL K ct F H ks ds vs) : ∀ {i : Nat} {d : D} {k : Kd}, ks[i]? = some k → ds[i]? = some d → (k = .fz ∧ ∃ v, vs[i]? = some v ∧ Rp K ct F d v) ∨ (k ≠ .fz ∧ ∃ a o, vs[i]? = some (.ref a) ∧ F a = none ∧ H a = some o ∧ OwO K ct F d o) := by
  induction ks generalizing ds vs with
  | nil => intro i d k e; simp at e
  | cons k0 ks ih =>
    intro i d k e1 e2
    have go : ∀ {d0 v0 ds' vs'}, ds = d0 :: ds' → vs = v0 :: vs' → ArL K ct F H ks ds' vs' → ∀ j, i = j + 1 → (k = .fz ∧ ∃ v, vs[i]? = some v ∧ Rp K ct F d v) ∨ (k ≠ .fz ∧ ∃ a o, vs[i]? = some (.ref a) ∧ F a = none ∧ H a = some o ∧ OwO K ct F d o) := fun {d0 v0 ds' vs'} ea eb h9 j ej => by
      subst ea eb ej
      have := ih h9 (i := j) (d := d) (k := k) (by simpa using e1) (by simpa using e2)
      simpa using this
    cases k0 with
    | fz =>
      obtain ⟨d0, ds', v, vs', rfl, rfl, r, h⟩ := h
      cases i with
      | zero => simp at e1 e2; subst e1 e2; exact .inl ⟨rfl, v, rfl, r⟩
      | succ j => exact go rfl rfl h j rfl
    | ow =>
      obtain ⟨d0, ds', b, vs', o, rfl, rfl, q1, q2, q3, h⟩ := h
      cases i with
      | zero => simp at e1 e2; subst e1 e2; exact .inr ⟨by decide, b, o, rfl, q1, q2, q3⟩
      | succ j => exact go rfl rfl h j rfl
    | io =>
      obtain ⟨d0, ds', b, vs', o, rfl, rfl, q1, q2, q3, h⟩ := h
      cases i with
      | zero => simp at e1 e2; subst e1 e2; exact .inr ⟨by decide, b, o, rfl, q1, q2, q3⟩
      | succ j => exact go rfl rfl h j rfl
theorem nodup_snd {l : List (Nat × Addr)} (h : (l.map (·.2)).Nodup) {i j : Nat} {a : Addr} (h1 : (i, a) ∈ l) (h2 : (j, a) ∈ l) : i = j := by
  induction l with
  | nil => simp at h1
  | cons p l ih =>
    simp only [List.map_cons, List.nodup_cons] at h
    rcases List.mem_cons.mp h1 with e1 | e1
    · rcases List.mem_cons.mp h2 with e2 | e2
      · rw [← e1] at e2; exact (congrArg Prod.fst e2).symm
      · exact absurd (List.mem_map.mpr ⟨_, e2, by rw [← e1]⟩) h.1
    · rcases List.mem_cons.mp h2 with e2 | e2
      · exact absurd (List.mem_map.mpr ⟨_, e1, by rw [← e2]⟩) h.1
      · exact ih h.2 e1 e2
/-- the state at a body's start -/
theorem start_rs {N : List Str} {ks Γl : List Kd} {ds : List D} {vs : List V} (hs : Same F H) (h : ArL K ct F H ks ds vs) (hk : ∀ k ∈ ks, k ≠ .ow) (nd : (ioA ks vs).Nodup) (hl : (ks ++ Γl).length = N.length) :
    RS ⟨K, ct, F, H, iosL ks vs 0⟩ (ks ++ Γl) F (stE N.length ds) (start N vs) H := by
  obtain ⟨l1, l2⟩ := h.len
  have hN : ks.length ≤ N.length := by rw [← hl, List.length_append]; omega
  have g1 : ∀ {i : Nat} {d : D}, (stE N.length ds)[i]? = some (some d) → i < ks.length ∧ ds[i]? = some d := fun {i d} e => by
    unfold stE at e
    by_cases hi : i < ds.length
    · rw [List.getElem?_append_left (by simpa using hi), List.getElem?_map] at e
      obtain ⟨d', e1, e2⟩ := Option.map_eq_some_iff.mp e
      cases e2
      exact ⟨by omega, e1⟩
    · rw [List.getElem?_append_right (by simpa using hi), List.getElem?_replicate] at e
      split at e <;> cases e
  have g2 : ∀ {i : Nat} {v : V}, vs[i]? = some v → (start N vs)[i]? = some (some v) := fun {i v} e => by
    have hi := (List.getElem?_eq_some_iff.mp e).1
    unfold L2.start
    rw [List.getElem?_append_left (by simpa using hi), List.getElem?_map, e]
    rfl
  have g3 : ∀ {i : Nat} {v : V}, (start N vs)[i]? = some (some v) → vs[i]? = some v := fun {i v} e => by
    unfold L2.start at e
    by_cases hi : i < vs.length
    · rw [List.getElem?_append_left (by simpa using hi), List.getElem?_map] at e
      obtain ⟨d', e1, e2⟩ := Option.map_eq_some_iff.mp e
      cases e2
      exact e1
    · rw [List.getElem?_append_right (by simpa using hi), List.getElem?_replicate] at e
      split at e <;> cases e
  have gk : ∀ {i : Nat}, i < ks.length → (ks ++ Γl)[i]? = ks[i]? := fun {i} hi => List.getElem?_append_left hi
  have ls : (start N vs).length = N.length := by unfold L2.start; rw [List.length_append, List.length_map, List.length_replicate]; omega
  have o1 : ∀ {i a}, Ow1 (ks ++ Γl) (start N vs) i a → (i, a) ∈ iosL ks vs 0 := fun {i a} ⟨z1, z2⟩ => by
    have z3 := g3 z2
    have hi : i < ks.length := by have := (List.getElem?_eq_some_iff.mp z3).1; omega
    rw [gk hi] at z1
    refine (iosL_mem h hk).mpr ⟨i, by omega, ?_, z3⟩
    rcases z1 with z1 | z1
    · exact absurd rfl (hk _ (List.mem_of_getElem? z1))
    · exact z1
  refine ⟨hs, Ext.refl, ?_, ?_, fun i e => ?_, fun i d e1 e2 => ?_, fun i d k e1 e2 e3 => ?_, fun i j a e1 e2 => ?_, fun p hp => ?_⟩
  · rw [ls]; unfold stE; rw [List.length_append, List.length_map, List.length_replicate]; omega
  · rw [ls]; exact hl
  · unfold stE at e
    by_cases hi : i < ds.length
    · rw [List.getElem?_append_left (by simpa using hi), List.getElem?_map] at e
      obtain ⟨d', _, e2⟩ := Option.map_eq_some_iff.mp e
      cases e2
    · rw [List.getElem?_append_right (by simpa using hi), List.getElem?_replicate] at e
      unfold L2.start
      rw [List.getElem?_append_right (by simp; omega), List.getElem?_replicate]
      split at e
      · rename_i hlt
        rw [List.length_map] at hlt ⊢
        rw [if_pos (by omega)]
      · cases e
  · obtain ⟨hi, e3⟩ := g1 e2
    rw [gk hi] at e1
    rcases h.get e1 e3 with ⟨_, v, z1, z2⟩ | ⟨z, _⟩
    · exact ⟨v, g2 z1, z2⟩
    · exact absurd rfl z
  · obtain ⟨hi, e4⟩ := g1 e3
    rw [gk hi] at e1
    rcases h.get e1 e4 with ⟨z, _⟩ | ⟨_, a, o, z1, z2, z3, z4⟩
    · exact absurd z e2
    · have hio : k = .io := by
        cases k with
        | fz => exact absurd rfl e2
        | ow => exact absurd rfl (hk _ (List.mem_of_getElem? e1))
        | io => rfl
      subst hio
      exact ⟨a, o, g2 z1, z2, z3, z4, .inl ⟨i, (iosL_mem h hk).mpr ⟨i, by omega, e1, z1⟩⟩, fun z => by cases z⟩
  · refine nodup_snd (l := iosL ks vs 0) ?_ (o1 e1) (o1 e2)
    rw [iosL_snd h hk]; exact nd
  · obtain ⟨i, a⟩ := p
    obtain ⟨j, e0, e1, e2⟩ := (iosL_mem h hk).mp hp
    have e0 : i = j := by omega
    subst e0
    have hi : i < ks.length := (List.getElem?_eq_some_iff.mp e1).1
    refine ⟨(gk hi).trans e1, g2 e2, ds[i]'(by omega), ?_⟩
    unfold stE
    show (ds.map some ++ _)[i]? = _
    rw [List.getElem?_append_left (by simp; omega), List.getElem?_map, List.getElem?_eq_getElem (by omega)]
    rfl
theorem outs_ok {F' H' : Hp} {ρ : Env} {l : List (Nat × Addr)} (h : ∀ p ∈ l, ∃ d o, ρ[p.1]? = some (some d) ∧ F' p.2 = none ∧ H' p.2 = some o ∧ OwO K ct F' d o) : OutOk K ct F' H' (outsE ρ (l.map (·.1))) (l.map (·.2)) := by
  induction l with
  | nil => exact .nil
  | cons p l ih =>
    obtain ⟨d, o, e1, e2, e3, e4⟩ := h p List.mem_cons_self
    simp only [List.map_cons, outsE, e1]
    exact .cons ⟨e2, o, e3, e4⟩ (ih fun q hq => h q (List.mem_cons_of_mem _ hq))
end
/-- THE RULE by the mirror -/
theorem fn_g {P : Program} {w : World} {K : Frag} {ct : Ct} {mg : Str → Option Value} {base : Heap} {k : Nat} {f : Addr} {x qual : Str} {params : Arguments} {body : List Stmt} {scope : Scope} {dvs : List V} {kws : List (Str × V)} {fd : FuncData}
    {N ps : List Str} {ks Γl Γ' : List Kd} {ro : Bool} {b : MS} (Fd : FunD K x qual params body scope dvs kws f fd) (Sc : FnScope N ps scope)
    (hb : ∀ (X : Cx) (S : Sg) (cdv : Value) (A : Around) (outer : List PySem.Env) (s : Shared) (H : Hp) (E : XK), X = cxOf (L2.CX P w) P w K mg base N qual scope f cdv A outer s H E → S.C.K = K → S.C.ct = ct → S.ge = none → S.ro = ro → Takes X S.W → X.A.guards = some [] → Room k X.A →
      PassesOwn (model X.prog X.w) X.A X.env X.xe → EvSs X S (ks ++ Γl) Γ' body b)
    (hk : ∀ k ∈ ks, k ≠ .ow := by decide) (hps : ks.length = ps.length := by rfl) (hl : (ks ++ Γl).length = N.length := by rfl) :
    FnG P w K mg base (L2.CX P w) (k + 1) f fd ps (SpG K ct ks ro (mFn N.length ks ro b)) := by
  refine fn_any Fd Sc (fun vs H Q E ⟨F, ds, _, h, _⟩ => by rw [h.len.2, hps]) fun cdv A outer s H vs Q E hgd hr hsp => ?_
  obtain ⟨F, ds, hs, hA, nd, hsp⟩ := hsp
  have hX : (cxOf (L2.CX P w) P w K mg base N qual scope f cdv A outer s H E) = cxOf (L2.CX P w) P w K mg base N qual scope f cdv A outer s H E := rfl
  have hbd := hb (cxOf (L2.CX P w) P w K mg base N qual scope f cdv A outer s H E) ⟨⟨K, ct, F, H, iosL ks vs 0⟩, none, fun cl dx _ H => E cl dx H, [], [], ro⟩ cdv A outer s H E rfl rfl rfl rfl rfl (takes_of rfl rfl rfl rfl) (deeper_guards hgd _) hr (passes_of rfl)
  refine ⟨_, hbd, F, stE N.length ds, start_rs hs hA hk nd hl, ?_⟩
  have io : ∀ {F' H'}, Ext (fun a => Fx.io ⟨K, ct, F, H, iosL ks vs 0⟩ a) F H F' H' → Ext (fun a => a ∈ ioA ks vs) F H F' H' := fun {F' H'} z => z.sub fun a ⟨i, ha⟩ => .inl (by rw [← iosL_snd hA hk (n := 0)]; exact List.mem_map.mpr ⟨_, ha, rfl⟩)
  have oo : ∀ {F' H' ρ'}, RO ⟨K, ct, F, H, iosL ks vs 0⟩ F' ρ' H' → OutOk K ct F' H' (outsE ρ' (ioIx ks 0)) (ioA ks vs) := fun {F' H' ρ'} z => by
    rw [← iosL_snd hA hk (n := 0), ← iosL_fst hA hk (n := 0)]
    exact outs_ok z.io
  unfold mFn at hsp
  cases e : b (stE N.length ds) with
  | nx ρ' =>
    rw [e] at hsp
    intro σ' F' H' sm rs
    cases ro with
    | true => exact hsp.elim
    | false =>
      have ro := rs.ro
      exact hsp .non F' H' (io ro.ext) ro.sub (show Rp K ct F' .non .non from rp_non.mpr rfl) (oo ro)
  | rt d ρ' =>
    rw [e] at hsp
    intro v F' H' sm ro rt
    exact hsp v F' H' (io ro.ext) ro.sub rt (oo ro)
  | er x ρ' =>
    rw [e] at hsp
    intro cl dx σ' F' H' sm re rx
    exact hsp cl dx F' H' (io (RO.ext re)) (RO.sub re) rx (oo re)
  | bk ρ' => rw [e] at hsp; exact hsp.elim
  | ct ρ' => rw [e] at hsp; exact hsp.elim
  | no => rw [e] at hsp; exact hsp.elim
end G
/-! G11: calls of the program's own functions. -/
namespace G
open PySem PySem.Spec PyProof.Rows L2
/-! ### running a callee -/
section
variable {X : Cx} {W : WX} {k n : Nat} {f C : Addr} {fd : FuncData} {ps kn : List Str} {sp : Sp} {g : List Value → List Value → List Value} {gV : List V → List V → List V}
theorem run_g {pins : List (Addr × Obj)} {σ : L2.St} {H : Hp} {s : Shared} {Q : VK} {us ws : List Value} {vs zs : List V} (F : FnG X.prog X.w X.K X.mg X.base (L2.CX X.prog X.w) k f fd ps sp) (hgd : X.A.guards = some []) (hr : Room k X.A) (hb : KBn X.K fd ps n kn g gV) (tk : Takes X W)
    (I : Inv X pins σ H s) (r : Vals vs us) (rz : Vals zs ws) (l1 : vs.length = n) (l2 : zs.length = kn.length) (h : sp (gV vs zs) H Q (WE W σ)) : wpAny (model X.prog X.w) X.A (call (.ref f) us (kn.zip ws)) (EP X pins σ Q) X.xe s := by
  have r2 := hb.rel r rz
  refine wpAny_call (codeAny_mono (F.run X.A X.stack s H ⟨us, kn.zip ws⟩ (g us ws) (gV vs zs) Q (WE W σ) hgd hr I.env0 (hb.to s us ws I.kIn (r.length.symm.trans l1) (rz.length.symm.trans l2)) r2 h) fun r s' hq => ?_)
  cases r with
  | error e => exact passAt tk σ pins H s e s' I hq
  | ok fl =>
    cases fl with
    | ret u => exact I.after hq
    | next => exact False.elim hq
    | brk => exact False.elim hq
    | cont => exact False.elim hq
end
/-- f(e, ..), f(e, .., k = v, ..) by values -/
def tG (n m : Nat) (sp : Sp) (gV : List V → List V → List V) (W : WX) (t tk : TA) : TE := fun σ H Q => t σ H fun vs H1 => tk σ H1 fun zs H2 => vs.length = n ∧ zs.length = m ∧ sp (gV vs zs) H2 Q (WE W σ)
section
variable {X : Cx} {W : WX} {k n : Nat} {f C : Addr} {fd : FuncData} {ps kn : List Str} {sp : Sp} {g : List Value → List Value → List Value} {gV : List V → List V → List V} {x m : Str} {p pos apos : Pos} {e o : Expr} {es : List Expr} {kws : List Keyword} {t tkw : TA} {ta : TE}
/-- a callee at hand -/
structure Fn (X : Cx) (k : Nat) (f : Addr) (fd : FuncData) (ps : List Str) (sp : Sp) : Prop where
  fn : FnG X.prog X.w X.K X.mg X.base (L2.CX X.prog X.w) k f fd ps sp
  gd : X.A.guards = some []
  rm : Room k X.A
theorem pe_g (F : Fn X k f fd ps sp) (hm : X.mg x = some (.ref f)) (hk : PySem.W.keepIn X.K (.ref f) = true) (hb : KBn X.K fd ps n [] g gV) (tk : Takes X W) (ha : PA X (e :: es) t) (hg : Gl X x := by rfl)
    (hdb : (x == ("__debug__" : Str)) = false := by decide) (he : starEach (e :: es) X.env = (false, eval e X.env) :: starEach es X.env := by rfl) (hpl : (backTo pos (starEach es X.env)).any (·.1) = false := by rfl) :
    PE X (.Call (.Name x p) (e :: es) [] pos) (tG n 0 sp gV W t tNil) := by
  refine ⟨fun pins s σ H Q I h => ?_⟩
  refine wpAny_Call_Name_kw (ld_glob I hg hm ?_ hdb)
  refine PySem.W.callWith_K (h₀ := X.base) I.ok.mod.kin hk (thn (ha.run pos pins s σ H _ I h) fun us s1 ⟨vs, H1, I1, r, l1, l2, q⟩ => ⟨I1.kIn, ?_⟩) he hpl
  exact run_g (ws := []) (zs := []) F.fn F.gd F.rm hb tk I1 r .nil l1 rfl q
theorem pe_g0 (F : Fn X k f fd ps sp) (hm : X.mg x = some (.ref f)) (hk : PySem.W.keepIn X.K (.ref f) = true) (hb : KBn X.K fd ps n [] g gV) (tk : Takes X W) (hg : Gl X x := by rfl) (hdb : (x == ("__debug__" : Str)) = false := by decide) :
    PE X (.Call (.Name x p) [] [] pos) (tG n 0 sp gV W tNil tNil) := by
  refine ⟨fun pins s σ H Q I h => ?_⟩
  refine wpAny_Call_Name_kw (ld_glob I hg hm ?_ hdb)
  obtain ⟨l1, l2, q⟩ := h
  exact PySem.W.callWith_K0 I.kIn hk (run_g (us := []) (ws := []) (zs := []) (vs := []) F.fn F.gd F.rm hb tk I .nil .nil l1 rfl q)
theorem pe_gk (F : Fn X k f fd ps sp) (hm : X.mg x = some (.ref f)) (hk : PySem.W.keepIn X.K (.ref f) = true) (hb : KBn X.K fd ps n kn g gV) (tk : Takes X W) (ha : PA X (e :: es) t) (hkw : PK X kws tkw) (hg : Gl X x := by rfl)
    (hall : (backToKw pos (keywordEach kws X.env)).all (·.1.isSome) = true := by rfl) (hks : (backToKw pos (keywordEach kws X.env)).filterMap (·.1) = kn := by rfl)
    (hdb : (x == ("__debug__" : Str)) = false := by decide) (he : starEach (e :: es) X.env = (false, eval e X.env) :: starEach es X.env := by rfl)
    (hpl : ((backTo pos (starEach (e :: es) X.env)).any (·.1) || (backToKw pos (keywordEach kws X.env)).any (·.1.isNone)) = false := by rfl) :
    PE X (.Call (.Name x p) (e :: es) kws pos) (tG n kn.length sp gV W t tkw) := by
  refine ⟨fun pins s σ H Q I h => ?_⟩
  refine wpAny_Call_Name_kw (ld_glob I hg hm ?_ hdb)
  refine PySem.W.callWith_KW (h₀ := X.base) I.ok.mod.kin hk hall (thn (ha.run pos pins s σ H _ I h) fun us s1 ⟨vs, H1, I1, r, q⟩ => ?_) hpl he
  refine thn (hkw.run pos pins s1 σ H1 _ I1 q) fun ws s2 ⟨zs, H2, I2, rz, l1, l2, q2⟩ => ⟨I2.kIn, ?_⟩
  rw [hks]
  exact run_g F.fn F.gd F.rm hb tk I2 r rz l1 l2 q2
theorem pe_gk0 (F : Fn X k f fd ps sp) (hm : X.mg x = some (.ref f)) (hk : PySem.W.keepIn X.K (.ref f) = true) (hb : KBn X.K fd ps n kn g gV) (tk : Takes X W) (hkw : PK X kws tkw) (hg : Gl X x := by rfl)
    (hall : (backToKw pos (keywordEach kws X.env)).all (·.1.isSome) = true := by rfl) (hks : (backToKw pos (keywordEach kws X.env)).filterMap (·.1) = kn := by rfl)
    (hdb : (x == ("__debug__" : Str)) = false := by decide)
    (hpl : ((backTo pos (starEach [] X.env)).any (·.1) || (backToKw pos (keywordEach kws X.env)).any (·.1.isNone)) = false := by rfl) :
    PE X (.Call (.Name x p) [] kws pos) (tG n kn.length sp gV W tNil tkw) := by
  refine ⟨fun pins s σ H Q I h => ?_⟩
  refine wpAny_Call_Name_kw (ld_glob I hg hm ?_ hdb)
  refine PySem.W.callWith_KW0 (h₀ := X.base) I.ok.mod.kin hk hall ?_ hpl
  refine thn (hkw.run pos pins s σ H _ I h) fun ws s2 ⟨zs, H2, I2, rz, l1, l2, q2⟩ => ⟨I2.kIn, ?_⟩
  rw [hks]
  exact run_g (us := []) (vs := []) F.fn F.gd F.rm hb tk I2 .nil rz l1 l2 q2
end
/-! ### binding, by data -/
/-- what is bound: positional and keywords' data in the parameters' order -/
structure BnD (K : Frag) (ct : Ct) (fd : FuncData) (ps : List Str) (n : Nat) (kn : List Str) (gD : List D → List D → List D) : Prop where
  ex : ∃ g gV, KBn K fd ps n kn g gV ∧ ∀ F vs ds zs es, RpL K ct F ds vs → RpL K ct F es zs → RpL K ct F (gD ds es) (gV vs zs)
/-- all are written -/
def BnF (K : Frag) (fd : FuncData) (ps : List Str) : Prop := KBn K fd ps ps.length [] (fun us _ => us) (fun vs _ => vs)
theorem bnF {K : Frag} {fd : FuncData} {ps : List Str} (h : Binds K fd ps []) : BnF K fd ps := ⟨fun s us ws hK l1 l2 => by
  have := h s us hK (by simpa using l1)
  simpa using this, fun r _ => r⟩
theorem BnF.d {K : Frag} {ct : Ct} {fd : FuncData} {ps : List Str} (h : BnF K fd ps) : BnD K ct fd ps ps.length [] (fun ds _ => ds) := ⟨_, _, h, fun _ _ _ _ _ r _ => r⟩
/-! ### after a call -/
/-- exceptions' kinds: none, or reached by freezing -/
def GeLe (Γ : List Kd) (ge : Option (List Kd)) : Prop := ge = none ∨ ∃ is Γ2, frzL is Γ = some Γ2 ∧ ge = some Γ2
theorem RX.mono {K : Frag} {ct : Ct} {F F' H : Hp} {x : Ex} {cl : Value} {dx : Option Addr} (h : RX K ct F H x cl dx) (e : Same F F') : RX K ct F' H x cl dx := by
  obtain ⟨h1, h2⟩ := h
  refine ⟨h1, ?_⟩
  cases hn : (ct x.c).2 with
  | nil => rw [hn] at h2; exact h2
  | cons n ns =>
    rw [hn] at h2
    obtain ⟨a, vs, q1, q2, q3, q4⟩ := h2
    exact ⟨a, vs, q1, q2, q3, q4.mono e⟩
theorem RE.le {C : Fx} {ge : Option (List Kd)} {Γ : List Kd} {F H : Hp} {ρ : Env} {σ : L2.St} (r : RS C Γ F ρ σ H) (h : GeLe Γ ge) : ∃ F', Same F F' ∧ RE C ge F' ρ σ H := by
  rcases h with rfl | ⟨is, Γ2, e, rfl⟩
  · exact ⟨F, Same.refl _, r.ro⟩
  · obtain ⟨F', sm, r'⟩ := r.frzs e
    exact ⟨F', sm, r'⟩
section
variable {X : Cx} {S : Sg} {Γ : List Kd}
/-- a frozen call's result -/
def frM (r : FR) : M D := fun ρ => match r with
  | .ok d _ => .ok d ρ
  | .er x _ => .er x ρ
  | .no => .no
def allFz (ks : List Kd) : Bool := ks.all fun k => decide (k = .fz)
theorem arl_fz {K : Frag} {ct : Ct} {F H : Hp} : ∀ {ks : List Kd} {ds : List D} {vs : List V}, allFz ks = true → RpL K ct F ds vs → ds.length = ks.length → ArL K ct F H ks ds vs ∧ ioA ks vs = []
  | [], ds, vs, _, r, hl => by
    have e : ds = [] := List.length_eq_zero_iff.mp hl
    subst e
    rw [rpl_nil.mp r]
    exact ⟨⟨rfl, rfl⟩, rfl⟩
  | k :: ks, ds, vs, h, r, hl => by
    unfold allFz at h
    simp only [List.all_cons, Bool.and_eq_true, decide_eq_true_eq] at h
    obtain ⟨rfl, h⟩ := h
    cases ds with
    | nil => simp at hl
    | cons d ds =>
      obtain ⟨v, w, rfl, r1, r2⟩ := rpl_cons.mp r
      obtain ⟨q1, q2⟩ := arl_fz (ks := ks) h r2 (by simpa using hl)
      exact ⟨⟨d, ds, v, w, rfl, rfl, r1, q1⟩, q2⟩
/-- the promise met: frozen arguments -/
theorem spg_fz {ks : List Kd} {MF : MFn} {F H : Hp} {ds : List D} {vs : List V} {σ : L2.St} {Q : VK} (hks : allFz ks = true) (hge : GeLe Γ S.ge) (r : RpL S.C.K S.C.ct F ds vs) (hl : ds.length = ks.length) (h : TrF S Γ (rD S) (frM (MF ds)) F σ H Q) :
    SpG S.C.K S.C.ct ks false MF vs H Q (WE S.W σ) := by
  obtain ⟨ρ, rs, h⟩ := h
  obtain ⟨q1, q2⟩ := arl_fz (H := H) hks r hl
  refine ⟨F, ds, rs.sub, q1, by rw [q2]; exact List.nodup_nil, ?_⟩
  unfold frM at h
  have up : ∀ {F' H'}, Ext (fun a => a ∈ ioA ks vs) F H F' H' → Ext (fun _ => False) F H F' H' := fun {F' H'} x => by rw [q2] at x; exact x.sub fun b hb => by simp at hb
  cases e : MF ds with
  | no => rw [e] at h; exact h.elim
  | ok d outs =>
    rw [e] at h
    intro v F' H' x hs rt _
    have x := up x
    exact h v F' H' (rs.grow x hs) (x.sub fun _ z => z.elim) rt
  | er z outs =>
    rw [e] at h
    intro cl dx F' H' x hs rx _
    have x := up x
    obtain ⟨F2, sm, re⟩ := RE.le (rs.grow x hs) hge
    exact h cl dx F2 H' (x.f.trans sm) re (rx.mono sm)
/-- f(..) of frozen data, with keywords: the mirror -/
def mCall (gD : List D → List D → List D) (MF : MFn) (m mk : M (List D)) : M D := m.bind fun ds => mk.bind fun es => frM (MF (gD ds es))
/-- .. the number of the arguments is right -/
def mCkd (n m k : Nat) (gD : List D → List D → List D) (MF : MFn) (a b : M (List D)) : M D := a.bind fun ds => b.bind fun es => if ds.length = n ∧ es.length = m ∧ (gD ds es).length = k then frM (MF (gD ds es)) else M.opt none
theorem tr_g {ks : List Kd} {MF : MFn} {gD : List D → List D → List D} {gV : List V → List V → List V} {n m : Nat} {ma mk : M (List D)} (hks : allFz ks = true) (hge : GeLe Γ S.ge) (hgr : ∀ F vs ds zs es, RpL S.C.K S.C.ct F ds vs → RpL S.C.K S.C.ct F es zs → RpL S.C.K S.C.ct F (gD ds es) (gV vs zs))
    {σ : L2.St} {H : Hp} {Q : VK} (q : Tr S Γ (rD S) (mCkd n m ks.length gD MF ma mk) σ H Q) : tG n m (SpG S.C.K S.C.ct ks false MF) gV S.W (Tr S Γ (rL S) ma) (Tr S Γ (rL S) mk) σ H Q := by
  refine (Tr.bind (R1 := rL S) rD_late q).mono fun vs H1 ⟨ds, F1, r, q⟩ => ⟨F1, (TrF.bind (R1 := rL S) rD_late q).mono fun zs H2 ⟨es, F2, r2, x2, q⟩ => ?_⟩
  split at q
  · rename_i hl
    have ra : RpL S.C.K S.C.ct F2 ds vs := RpL.mono x2.f r
    have rb : RpL S.C.K S.C.ct F2 es zs := r2
    exact ⟨by rw [← ra.length]; exact hl.1, by rw [← rb.length]; exact hl.2.1, spg_fz hks hge (hgr _ _ _ _ _ ra rb) hl.2.2 q⟩
  · exact q.nope.elim
def EvK (X : Cx) (S : Sg) (Γ : List Kd) (kws : List Keyword) (m : M (List D)) : Prop := PK X kws (Tr S Γ (rL S) m)
theorem pk_imp {e : List Keyword} {t t' : TA} (h : PK X e t) (k : ∀ σ H Q, t' σ H Q → t σ H Q) : PK X e t' := ⟨fun pos pins s σ H Q I q => h.run pos pins s σ H Q I (k _ _ _ q)⟩
theorem k_nil : EvK X S Γ [] mNil := pk_imp pk_nil fun σ H Q ⟨F, h⟩ => h.ret0 (rpl_nil.mpr rfl)
theorem k_cons {e : Expr} {nm : Option Str} {kpos : Pos} {kws : List Keyword} {m : M D} {n : M (List D)} (h : EvE X S Γ e m) (h' : EvK X S Γ kws n) : EvK X S Γ (⟨nm, e, kpos⟩ :: kws) (mCons m n) := pk_imp (pk_cons h h') fun σ H Q q => by
  refine (Tr.bind (R1 := rD S) rL_late q).mono fun v H1 ⟨d, F1, r, q⟩ => ⟨F1, (TrF.bind (R1 := rL S) rL_late q).mono fun w H2 ⟨e, F2, q2, x2, h⟩ => ?_⟩
  exact h.ret0 (rpl_cons.mpr ⟨v, w, rfl, Rp.mono x2.f r, q2⟩)
variable {k n : Nat} {f : Addr} {fd : FuncData} {ps kn : List Str} {x : Str} {p pos : Pos} {e : Expr} {es : List Expr} {kws : List Keyword} {ks : List Kd} {MF : MFn} {gD : List D → List D → List D} {ma mk : M (List D)}
theorem e_g (F : Fn X k f fd ps (SpG S.C.K S.C.ct ks false MF)) (hm : X.mg x = some (.ref f)) (hk : PySem.W.keepIn X.K (.ref f) = true) (hb : BnD X.K S.C.ct fd ps n [] gD) (tk : Takes X S.W) (hge : GeLe Γ S.ge) (ha : EvA X S Γ (e :: es) ma) (hK : S.C.K = X.K) (hks : allFz ks = true := by rfl) (hg : Gl X x := by rfl)
    (hdb : (x == ("__debug__" : Str)) = false := by decide) (he : starEach (e :: es) X.env = (false, eval e X.env) :: starEach es X.env := by rfl) (hpl : (backTo pos (starEach es X.env)).any (·.1) = false := by rfl) :
    EvE X S Γ (.Call (.Name x p) (e :: es) [] pos) (mCkd n 0 ks.length gD MF ma mNil) := by
  obtain ⟨g, gV, hb, hgr⟩ := hb.ex
  refine pe_imp (pe_g F hm hk hb tk ha hg hdb he hpl) fun σ H Q q => ?_
  exact (tr_g hks hge (by rw [hK]; exact hgr) q).elim fun F h => ⟨F, h.mono fun vs H1 h => h.elim fun F h => h.ret0 (rpl_nil.mpr rfl)⟩
theorem e_g0 (F : Fn X k f fd ps (SpG S.C.K S.C.ct ks false MF)) (hm : X.mg x = some (.ref f)) (hk : PySem.W.keepIn X.K (.ref f) = true) (hb : BnD X.K S.C.ct fd ps n [] gD) (tk : Takes X S.W) (hge : GeLe Γ S.ge) (hK : S.C.K = X.K) (hks : allFz ks = true := by rfl) (hg : Gl X x := by rfl)
    (hdb : (x == ("__debug__" : Str)) = false := by decide) :
    EvE X S Γ (.Call (.Name x p) [] [] pos) (mCkd n 0 ks.length gD MF mNil mNil) := by
  obtain ⟨g, gV, hb, hgr⟩ := hb.ex
  refine pe_imp (pe_g0 F hm hk hb tk hg hdb) fun σ H Q q => ?_
  have h := (tr_g hks hge (by rw [hK]; exact hgr) q).elim fun F h => h.ret0 (rpl_nil.mpr rfl)
  exact h.elim fun F h => h.ret0 (rpl_nil.mpr rfl)
theorem e_gk (F : Fn X k f fd ps (SpG S.C.K S.C.ct ks false MF)) (hm : X.mg x = some (.ref f)) (hk : PySem.W.keepIn X.K (.ref f) = true) (hb : BnD X.K S.C.ct fd ps n kn gD) (tk : Takes X S.W) (hge : GeLe Γ S.ge) (ha : EvA X S Γ (e :: es) ma) (hkw : EvK X S Γ kws mk) (hK : S.C.K = X.K) (hks : allFz ks = true := by rfl) (hg : Gl X x := by rfl)
    (hall : (backToKw pos (keywordEach kws X.env)).all (·.1.isSome) = true := by rfl) (hkn : (backToKw pos (keywordEach kws X.env)).filterMap (·.1) = kn := by rfl)
    (hdb : (x == ("__debug__" : Str)) = false := by decide) (he : starEach (e :: es) X.env = (false, eval e X.env) :: starEach es X.env := by rfl)
    (hpl : ((backTo pos (starEach (e :: es) X.env)).any (·.1) || (backToKw pos (keywordEach kws X.env)).any (·.1.isNone)) = false := by rfl) :
    EvE X S Γ (.Call (.Name x p) (e :: es) kws pos) (mCkd n kn.length ks.length gD MF ma mk) := by
  obtain ⟨g, gV, hb, hgr⟩ := hb.ex
  exact pe_imp (pe_gk F hm hk hb tk ha hkw hg hall hkn hdb he hpl) fun σ H Q q => tr_g hks hge (by rw [hK]; exact hgr) q
theorem e_gk0 (F : Fn X k f fd ps (SpG S.C.K S.C.ct ks false MF)) (hm : X.mg x = some (.ref f)) (hk : PySem.W.keepIn X.K (.ref f) = true) (hb : BnD X.K S.C.ct fd ps n kn gD) (tk : Takes X S.W) (hge : GeLe Γ S.ge) (hkw : EvK X S Γ kws mk) (hK : S.C.K = X.K) (hks : allFz ks = true := by rfl) (hg : Gl X x := by rfl)
    (hall : (backToKw pos (keywordEach kws X.env)).all (·.1.isSome) = true := by rfl) (hkn : (backToKw pos (keywordEach kws X.env)).filterMap (·.1) = kn := by rfl)
    (hdb : (x == ("__debug__" : Str)) = false := by decide)
    (hpl : ((backTo pos (starEach [] X.env)).any (·.1) || (backToKw pos (keywordEach kws X.env)).any (·.1.isNone)) = false := by rfl) :
    EvE X S Γ (.Call (.Name x p) [] kws pos) (mCkd n kn.length ks.length gD MF mNil mk) := by
  obtain ⟨g, gV, hb, hgr⟩ := hb.ex
  exact pe_imp (pe_gk0 F hm hk hb tk hkw hg hall hkn hdb hpl) fun σ H Q q => (tr_g hks hge (by rw [hK]; exact hgr) q).elim fun F h => h.ret0 (rpl_nil.mpr rfl)
end
end G
/-! G12: calls that change what is handed in, or hand out a new object. -/
namespace G
open PySem PySem.Spec PyProof.Rows L2
/-- an argument: frozen data; a slot's own object; a new object -/
inductive Ah where
  | fz | sl (i : Nat) | tm
  deriving DecidableEq
def AsR (K : Frag) (ct : Ct) (F Hs H : Hp) (σ : L2.St) : List Ah → List D → List V → Prop
  | [], fs, vs => fs = [] ∧ vs = []
  | .fz :: sh, fs, vs => ∃ d fs' v vs', fs = d :: fs' ∧ vs = v :: vs' ∧ Rp K ct F d v ∧ AsR K ct F Hs H σ sh fs' vs'
  | .sl i :: sh, fs, vs => ∃ v vs', vs = v :: vs' ∧ σ[i]? = some (some v) ∧ AsR K ct F Hs H σ sh fs vs'
  | .tm :: sh, fs, vs => ∃ d fs' a vs' o, fs = d :: fs' ∧ vs = .ref a :: vs' ∧ Hs a = none ∧ F a = none ∧ H a = some o ∧ OwO K ct F d o ∧ AsR K ct F Hs H σ sh fs' vs'
def rAs (S : Sg) (σ : L2.St) (sh : List Ah) : Rel (List D) (List V) := fun Hs F H fs vs => AsR S.C.K S.C.ct F Hs H σ sh fs vs
section
variable {K : Frag} {ct : Ct} {F F' Hs Hs' H H' : Hp} {σ : L2.St} {Γ : List Kd}
theorem AsR.late (k : ∀ b, Hs' b ≠ none → Hs b ≠ none) : ∀ {sh : List Ah} {fs : List D} {vs : List V}, AsR K ct F Hs H σ sh fs vs → AsR K ct F Hs' H σ sh fs vs
  | [], fs, vs, h => h
  | .fz :: sh, fs, vs, h => by obtain ⟨d, fs', v, vs', e1, e2, r, h⟩ := h; exact ⟨d, fs', v, vs', e1, e2, r, h.late k⟩
  | .sl i :: sh, fs, vs, h => by obtain ⟨v, vs', e1, e2, h⟩ := h; exact ⟨v, vs', e1, e2, h.late k⟩
  | .tm :: sh, fs, vs, h => by
    obtain ⟨d, fs', a, vs', o, e1, e2, q0, q1, q2, q3, h⟩ := h
    refine ⟨d, fs', a, vs', o, e1, e2, ?_, q1, q2, q3, h.late k⟩
    cases e : Hs' a with
    | none => rfl
    | some x => exact absurd q0 (k a (by rw [e]; simp))
end
theorem rAs_late {S : Sg} {σ : L2.St} {sh : List Ah} : (rAs S σ sh).Late := fun H H1 F' H' d v k h => AsR.late (Hs := H1) (Hs' := H) k h
/-- the bind with the first start kept -/
theorem TrF.bindK {S : Sg} {Γ : List Kd} {α β γ δ : Type} {R : Rel α γ} {R1 : Rel β δ} {m : M β} {f : β → M α} {F : Hp} {σ : L2.St} {H : Hp} {Q : γ → Hp → Prop} (h : TrF S Γ R (m.bind f) F σ H Q) :
    TrF S Γ R1 m F σ H fun v H1 => ∃ d F1, R1 H F1 H1 d v ∧ Ext (Own Γ σ) F H F1 H1 ∧ TrF S Γ (fun _ => R H) (f d) F1 σ H1 Q := by
  obtain ⟨ρ, r, h⟩ := h
  refine ⟨ρ, r, ?_⟩
  unfold M.bind at h
  cases e : m ρ with
  | no => rw [e] at h; exact h.elim
  | er x ρ' => rw [e] at h; exact h
  | ok d ρ' =>
    rw [e] at h
    intro v F1 H1 r1 x1 q1
    refine ⟨d, F1, q1, x1, ρ', r1, ?_⟩
    have h' : (match f d ρ' with
      | .ok d ρ'' => ∀ v F' H', RS S.C Γ F' ρ'' σ H' → Ext (Own Γ σ) F H F' H' → R H F' H' d v → Q v H'
      | .er x ρ'' => ∀ cl dx F' H', Same F F' → RE S.C S.ge F' ρ'' σ H' → RX S.C.K S.C.ct F' H' x cl dx → S.W cl dx σ H'
      | .no => False) := h
    cases e2 : f d ρ' with
    | no => rw [e2] at h'; exact h'.elim
    | er x ρ'' => rw [e2] at h'; exact fun cl dx F2 H2 sm re rx => h' cl dx F2 H2 (x1.f.trans sm) re rx
    | ok d2 ρ'' =>
      rw [e2] at h'
      exact fun v2 F2 H2 r2 x2 q2 => h' v2 F2 H2 r2 (x1.trans x2) q2
/-- the bind, all of it seen from the first start -/
theorem TrF.raw {S : Sg} {Γ : List Kd} {α β γ δ : Type} {R : Rel α γ} {R1 : Rel β δ} {m : M β} {f : β → M α} {F : Hp} {σ : L2.St} {H : Hp} {Q : γ → Hp → Prop} (h : TrF S Γ R (m.bind f) F σ H Q) :
    TrF S Γ R1 m F σ H fun v H1 => ∃ d F1 ρ1, R1 H F1 H1 d v ∧ Ext (Own Γ σ) F H F1 H1 ∧ RS S.C Γ F1 ρ1 σ H1 ∧ (match f d ρ1 with
      | .ok d ρ'' => ∀ v F' H', RS S.C Γ F' ρ'' σ H' → Ext (Own Γ σ) F H F' H' → R H F' H' d v → Q v H'
      | .er x ρ'' => ∀ cl dx F' H', Same F F' → RE S.C S.ge F' ρ'' σ H' → RX S.C.K S.C.ct F' H' x cl dx → S.W cl dx σ H'
      | .no => False) := by
  obtain ⟨ρ, r, h⟩ := h
  refine ⟨ρ, r, ?_⟩
  unfold M.bind at h
  cases e : m ρ with
  | no => rw [e] at h; exact h.elim
  | er x ρ' => rw [e] at h; exact h
  | ok d ρ' =>
    rw [e] at h
    exact fun v F1 H1 r1 x1 q1 => ⟨d, F1, ρ', q1, x1, r1, h⟩
theorem TrF.mapR {S : Sg} {Γ : List Kd} {α γ δ : Type} {R : Rel α γ} {R1 : Rel α δ} {f : δ → γ} {m : M α} {F : Hp} {σ : L2.St} {H : Hp} {Q : γ → Hp → Prop} (h : TrF S Γ R m F σ H Q) (k : ∀ d v F' H', R1 H F' H' d v → R H F' H' d (f v)) : TrF S Γ R1 m F σ H fun v H' => Q (f v) H' := by
  obtain ⟨ρ, r, h⟩ := h
  refine ⟨ρ, r, ?_⟩
  cases e : m ρ with
  | no => rw [e] at h; exact h.elim
  | er x ρ' => rw [e] at h; exact h
  | ok d ρ' =>
    rw [e] at h
    exact fun v F1 H1 r1 x1 q1 => h (f v) F1 H1 r1 x1 (k _ _ _ _ q1)
def EvH (X : Cx) (S : Sg) (Γ : List Kd) (sh : List Ah) (es : List Expr) (m : M (List D)) : Prop := PA X es (fun σ H Q => Tr S Γ (rAs S σ sh) m σ H Q)
section
variable {X : Cx} {S : Sg} {Γ : List Kd}
theorem h_nil : EvH X S Γ [] [] mNil := pa_imp pa_nil fun σ H Q ⟨F, h⟩ => h.ret0 ⟨rfl, rfl⟩
theorem h_fz {sh : List Ah} {e : Expr} {es : List Expr} {m : M D} {n : M (List D)} (h : EvE X S Γ e m) (h' : EvH X S Γ sh es n) (hs : starEach (e :: es) X.env = (false, eval e X.env) :: starEach es X.env := by rfl) : EvH X S Γ (.fz :: sh) (e :: es) (mCons m n) := pa_imp (pa_cons h h' hs) fun σ H Q ⟨F, q⟩ => by
  refine ⟨F, (TrF.bindK (R1 := rD S) q).mono fun v H1 ⟨d, F1, r, x1, q⟩ => ⟨F1, (TrF.bindK (R1 := rAs S σ sh) q).mono fun w H2 ⟨e, F2, q2, x2, h⟩ => ?_⟩⟩
  exact h.ret0 ⟨d, e, v, w, rfl, rfl, Rp.mono x2.f r, AsR.late (Hs := H1) x1.n q2⟩
theorem h_sl {sh : List Ah} {i : Nat} {e : Expr} {es : List Expr} {n : M (List D)} (h : PE X e (tVar i)) (h' : EvH X S Γ sh es n) (hs : starEach (e :: es) X.env = (false, eval e X.env) :: starEach es X.env := by rfl) : EvH X S Γ (.sl i :: sh) (e :: es) ((mV i).bind fun _ => n) := pa_imp (pa_cons h h' hs) fun σ H Q ⟨F, q⟩ => by
  obtain ⟨d, u, hu, _, q⟩ := TrF.slot q
  exact ⟨u, hu, F, q.mapR (f := fun w => u :: w) fun fs w F' H' r => ⟨u, w, rfl, hu, r⟩⟩
theorem h_tm {sh : List Ah} {e : Expr} {es : List Expr} {m : M D} {n : M (List D)} (h : EvO X S Γ e m) (h' : EvH X S Γ sh es n) (hs : starEach (e :: es) X.env = (false, eval e X.env) :: starEach es X.env := by rfl) : EvH X S Γ (.tm :: sh) (e :: es) (mCons m n) := pa_imp (pa_cons h h' hs) fun σ H Q ⟨F, q⟩ => by
  obtain ⟨ρ0, rs0, _⟩ := id q
  refine ⟨F, (TrF.bindK (R1 := rO S) q).mono fun v H1 ⟨d, F1, r, x1, q⟩ => ⟨F1, (TrF.bindK (R1 := rAs S σ sh) q).mono fun w H2 ⟨e, F2, q2, x2, h⟩ => ?_⟩⟩
  obtain ⟨a, o, rfl, z1, z2, z3, z4⟩ := r
  have nO : ¬ Own Γ σ a := fun z => by
    obtain ⟨_, o', z⟩ := rs0.own_some z
    rw [z1] at z; cases z
  refine h.ret0 ⟨d, e, a, w, o, rfl, rfl, z1, ?_, x2.h a o z3 nO, z4.mono x2.f, AsR.late (Hs := H1) x1.n q2⟩
  cases ef : F2 a with
  | none => rfl
  | some y =>
    rcases x2.g a (by rw [ef]; simp) with z | z
    · exact absurd z2 z
    · rw [z3] at z; cases z
end
/-! ### the call -/
def fitsA (Γ : List Kd) : List Kd → List Ah → Bool
  | [], [] => true
  | .fz :: ks, .fz :: sh => fitsA Γ ks sh
  | .io :: ks, .sl i :: sh => (decide (Γ[i]? = some .ow) || decide (Γ[i]? = some .io)) && fitsA Γ ks sh
  | .io :: ks, .tm :: sh => fitsA Γ ks sh
  | _, _ => false
def slA : List Ah → List Nat
  | [] => []
  | .sl i :: sh => i :: slA sh
  | _ :: sh => slA sh
def tmA (sh : List Ah) : Nat := sh.count .tm
/-- the data at the call -/
def asmA (ρ : Env) : List Ah → List D → Option (List D)
  | .fz :: sh, d :: fs => (asmA ρ sh fs).map (d :: ·)
  | .tm :: sh, d :: fs => (asmA ρ sh fs).map (d :: ·)
  | .sl i :: sh, fs => match ρ[i]? with
    | some (some d) => (asmA ρ sh fs).map (d :: ·)
    | _ => none
  | [], [] => some []
  | _, _ => none
def putA : Env → List Ah → List D → Env
  | ρ, .fz :: sh, outs => putA ρ sh outs
  | ρ, .sl i :: sh, d :: outs => putA (ρ.set i (some d)) sh outs
  | ρ, .tm :: sh, _ :: outs => putA ρ sh outs
  | ρ, _, _ => ρ
section
variable {C : Fx} {F F' Hs H H' : Hp} {ρ : Env} {σ : L2.St} {Γ : List Kd}
theorem as_arl (r : RS C Γ F ρ σ H) : ∀ {ks : List Kd} {sh : List Ah} {fs ds : List D} {vs : List V}, fitsA Γ ks sh = true → AsR C.K C.ct F Hs H σ sh fs vs → asmA ρ sh fs = some ds → ArL C.K C.ct F H ks ds vs
  | [], [], fs, ds, vs, _, h, e => by
    obtain ⟨rfl, rfl⟩ := h
    simp only [asmA] at e
    cases e
    exact ⟨rfl, rfl⟩
  | [], .fz :: sh, _, _, _, f, _, _ | [], .sl i :: sh, _, _, _, f, _, _ | [], .tm :: sh, _, _, _, f, _, _ => by simp [fitsA] at f
  | .fz :: ks, [], _, _, _, f, _, _ | .io :: ks, [], _, _, _, f, _, _ | .ow :: ks, _, _, _, _, f, _, _ => by simp [fitsA] at f
  | .fz :: ks, .sl i :: sh, _, _, _, f, _, _ | .fz :: ks, .tm :: sh, _, _, _, f, _, _ | .io :: ks, .fz :: sh, _, _, _, f, _, _ => by simp [fitsA] at f
  | .fz :: ks, .fz :: sh, fs, ds, vs, f, h, e => by
    obtain ⟨d, fs', v, vs', rfl, rfl, rd, h⟩ := h
    simp only [asmA] at e
    obtain ⟨ds', e1, rfl⟩ := Option.map_eq_some_iff.mp e
    simp only [fitsA] at f
    exact ⟨d, ds', v, vs', rfl, rfl, rd, as_arl r f h e1⟩
  | .io :: ks, .tm :: sh, fs, ds, vs, f, h, e => by
    obtain ⟨d, fs', a, vs', o, rfl, rfl, q0, q1, q2, q3, h⟩ := h
    simp only [asmA] at e
    obtain ⟨ds', e1, rfl⟩ := Option.map_eq_some_iff.mp e
    simp only [fitsA] at f
    exact ⟨d, ds', a, vs', o, rfl, rfl, q1, q2, q3, as_arl r f h e1⟩
  | .io :: ks, .sl i :: sh, fs, ds, vs, f, h, e => by
    obtain ⟨v, vs', rfl, hv, h⟩ := h
    simp only [fitsA, Bool.and_eq_true, Bool.or_eq_true, decide_eq_true_eq] at f
    obtain ⟨hk, f⟩ := f
    simp only [asmA] at e
    cases e2 : ρ[i]? with
    | none => rw [e2] at e; cases e
    | some x =>
      rw [e2] at e
      cases x with
      | none => cases e
      | some d =>
        obtain ⟨ds', e1, rfl⟩ := Option.map_eq_some_iff.mp e
        obtain ⟨k, hk1, hk2⟩ : ∃ k, Γ[i]? = some k ∧ k ≠ .fz := by
          rcases hk with hk | hk
          · exact ⟨_, hk, by decide⟩
          · exact ⟨_, hk, by decide⟩
        obtain ⟨a, o, z1, z2, z3, z4, _⟩ := r.ow i d k hk1 hk2 e2
        rw [hv] at z1
        cases z1
        exact ⟨d, ds', a, vs', o, rfl, rfl, z2, z3, z4, as_arl r f h e1⟩
/-- what the addresses handed in are -/
theorem as_ioa : ∀ {ks : List Kd} {sh : List Ah} {fs : List D} {vs : List V} {a : Addr}, fitsA Γ ks sh = true → AsR C.K C.ct F Hs H σ sh fs vs → a ∈ ioA ks vs → (∃ i, i ∈ slA sh ∧ Ow1 Γ σ i a) ∨ Hs a = none
  | [], [], fs, vs, a, _, h, m => by
    obtain ⟨rfl, rfl⟩ := h
    simp [ioA] at m
  | [], .fz :: sh, _, _, _, f, _, _ | [], .sl i :: sh, _, _, _, f, _, _ | [], .tm :: sh, _, _, _, f, _, _ => by simp [fitsA] at f
  | .fz :: ks, [], _, _, _, f, _, _ | .io :: ks, [], _, _, _, f, _, _ | .ow :: ks, _, _, _, _, f, _, _ => by simp [fitsA] at f
  | .fz :: ks, .sl i :: sh, _, _, _, f, _, _ | .fz :: ks, .tm :: sh, _, _, _, f, _, _ | .io :: ks, .fz :: sh, _, _, _, f, _, _ => by simp [fitsA] at f
  | .fz :: ks, .fz :: sh, fs, vs, a, f, h, m => by
    obtain ⟨d, fs', v, vs', rfl, rfl, rd, h⟩ := h
    exact as_ioa (ks := ks) (sh := sh) f h m
  | .io :: ks, .tm :: sh, fs, vs, a, f, h, m => by
    obtain ⟨d, fs', b, vs', o, rfl, rfl, q0, q1, q2, q3, h⟩ := h
    simp only [ioA, List.mem_cons] at m
    rcases m with rfl | m
    · exact .inr q0
    · exact as_ioa (ks := ks) (sh := sh) f h m
  | .io :: ks, .sl i :: sh, fs, vs, a, f, h, m => by
    obtain ⟨v, vs', rfl, hv, h⟩ := h
    simp only [fitsA, Bool.and_eq_true, Bool.or_eq_true, decide_eq_true_eq] at f
    obtain ⟨hk, f⟩ := f
    cases v with
    | ref b =>
      simp only [ioA, List.mem_cons] at m
      rcases m with rfl | m
      · exact .inl ⟨i, List.mem_cons_self, hk, hv⟩
      · rcases as_ioa (ks := ks) (sh := sh) f h m with ⟨j, z1, z2⟩ | z
        · exact .inl ⟨j, List.mem_cons_of_mem _ z1, z2⟩
        · exact .inr z
    | _ => simp [ioA] at m
theorem as_nodup (r : RS C Γ F ρ σ H) (hO : ∀ c, Own Γ σ c → Hs c ≠ none) : ∀ {ks : List Kd} {sh : List Ah} {fs : List D} {vs : List V}, fitsA Γ ks sh = true → AsR C.K C.ct F Hs H σ sh fs vs → (slA sh).Nodup → tmA sh ≤ 1 → (ioA ks vs).Nodup ∧ (tmA sh = 0 → ∀ a ∈ ioA ks vs, Hs a ≠ none)
  | [], [], fs, vs, _, h, _, _ => by
    obtain ⟨rfl, rfl⟩ := h
    exact ⟨List.nodup_nil, fun _ a m => by simp [ioA] at m⟩
  | [], .fz :: sh, _, _, f, _, _, _ | [], .sl i :: sh, _, _, f, _, _, _ | [], .tm :: sh, _, _, f, _, _, _ => by simp [fitsA] at f
  | .fz :: ks, [], _, _, f, _, _, _ | .io :: ks, [], _, _, f, _, _, _ | .ow :: ks, _, _, _, f, _, _, _ => by simp [fitsA] at f
  | .fz :: ks, .sl i :: sh, _, _, f, _, _, _ | .fz :: ks, .tm :: sh, _, _, f, _, _, _ | .io :: ks, .fz :: sh, _, _, f, _, _, _ => by simp [fitsA] at f
  | .fz :: ks, .fz :: sh, fs, vs, f, h, nd, t => by
    obtain ⟨d, fs', v, vs', rfl, rfl, rd, h⟩ := h
    have t' : tmA sh ≤ 1 := by unfold tmA at t ⊢; simpa using t
    have e : tmA (.fz :: sh) = tmA sh := by unfold tmA; simp
    rw [e]
    exact as_nodup r hO (ks := ks) (sh := sh) f h nd t'
  | .io :: ks, .tm :: sh, fs, vs, f, h, nd, t => by
    obtain ⟨d, fs', b, vs', o, rfl, rfl, q0, q1, q2, q3, h⟩ := h
    have e : tmA (.tm :: sh) = tmA sh + 1 := by unfold tmA; simp
    rw [e] at t ⊢
    have t0 : tmA sh = 0 := by omega
    obtain ⟨z1, z2⟩ := as_nodup r hO (ks := ks) (sh := sh) f h nd (by omega)
    exact ⟨List.nodup_cons.mpr ⟨fun m => z2 t0 b m q0, z1⟩, fun z => by omega⟩
  | .io :: ks, .sl i :: sh, fs, vs, f, h, nd, t => by
    obtain ⟨v, vs', rfl, hv, h⟩ := h
    have f0 := f
    simp only [fitsA, Bool.and_eq_true, Bool.or_eq_true, decide_eq_true_eq] at f
    obtain ⟨hk, f⟩ := f
    have e : tmA (.sl i :: sh) = tmA sh := by unfold tmA; simp
    rw [e] at t ⊢
    have nd' := List.nodup_cons.mp nd
    obtain ⟨z1, z2⟩ := as_nodup r hO (ks := ks) (sh := sh) f h nd'.2 t
    cases v with
    | ref b =>
      have ob : Ow1 Γ σ i b := ⟨hk, hv⟩
      refine ⟨List.nodup_cons.mpr ⟨fun m => ?_, z1⟩, fun z a m => ?_⟩
      · rcases as_ioa f h m with ⟨j, y1, y2⟩ | y
        · exact nd'.1 (by rw [r.dj i j b ob y2]; exact y1)
        · exact hO b ⟨i, ob⟩ y
      · simp only [ioA, List.mem_cons] at m
        rcases m with rfl | m
        · exact hO a ⟨i, ob⟩
        · exact z2 z a m
    | _ => simp only [ioA]; exact ⟨List.nodup_nil, fun _ a m => by simp at m⟩
theorem putA_len : ∀ {sh : List Ah} {ρ : Env} {outs : List D}, (putA ρ sh outs).length = ρ.length
  | [], ρ, outs => by simp [putA]
  | .fz :: sh, ρ, outs => by simp only [putA]; exact putA_len
  | .sl i :: sh, ρ, [] => by simp [putA]
  | .sl i :: sh, ρ, d :: outs => by simp only [putA]; rw [putA_len]; simp
  | .tm :: sh, ρ, [] => by simp [putA]
  | .tm :: sh, ρ, d :: outs => by simp only [putA]; exact putA_len
theorem putA_out {j : Nat} : ∀ {sh : List Ah} {ρ : Env} {outs : List D}, j ∉ slA sh → (putA ρ sh outs)[j]? = ρ[j]?
  | [], ρ, outs, _ => by simp [putA]
  | .fz :: sh, ρ, outs, h => by simp only [putA]; exact putA_out h
  | .sl i :: sh, ρ, [], _ => by simp [putA]
  | .sl i :: sh, ρ, d :: outs, h => by
    simp only [putA]
    simp only [slA, List.mem_cons, not_or] at h
    rw [putA_out h.2, List.getElem?_set_ne (fun z => h.1 z.symm)]
  | .tm :: sh, ρ, [], _ => by simp [putA]
  | .tm :: sh, ρ, d :: outs, h => by simp only [putA]; exact putA_out h
theorem putA_in {j : Nat} : ∀ {ks : List Kd} {sh : List Ah} {fs outs : List D} {vs : List V} {ρ : Env}, fitsA Γ ks sh = true → AsR C.K C.ct F Hs H σ sh fs vs → (slA sh).Nodup → OutOk C.K C.ct F' H' outs (ioA ks vs) → (∀ i a, Ow1 Γ σ i a → i < ρ.length) → (∀ i ∈ slA sh, ∃ a, σ[i]? = some (some (.ref a))) → j ∈ slA sh →
      ∃ a d o, σ[j]? = some (some (.ref a)) ∧ F' a = none ∧ H' a = some o ∧ OwO C.K C.ct F' d o ∧ (putA ρ sh outs)[j]? = some (some d)
  | [], [], _, _, _, _, _, _, _, _, _, _, m => by simp [slA] at m
  | [], .fz :: sh, _, _, _, _, f, _, _, _, _, _, _ | [], .sl i :: sh, _, _, _, _, f, _, _, _, _, _, _ | [], .tm :: sh, _, _, _, _, f, _, _, _, _, _, _ => by simp [fitsA] at f
  | .fz :: ks, [], _, _, _, _, f, _, _, _, _, _, _ | .io :: ks, [], _, _, _, _, f, _, _, _, _, _, _ | .ow :: ks, _, _, _, _, _, f, _, _, _, _, _, _ => by simp [fitsA] at f
  | .fz :: ks, .sl i :: sh, _, _, _, _, f, _, _, _, _, _, _ | .fz :: ks, .tm :: sh, _, _, _, _, f, _, _, _, _, _, _ | .io :: ks, .fz :: sh, _, _, _, _, f, _, _, _, _, _, _ => by simp [fitsA] at f
  | .fz :: ks, .fz :: sh, fs, outs, vs, ρ, f, h, nd, oo, hl, hr, m => by
    obtain ⟨d, fs', v, vs', rfl, rfl, rd, h⟩ := h
    simp only [putA]
    exact putA_in (ks := ks) (sh := sh) f h nd oo hl hr m
  | .io :: ks, .tm :: sh, fs, outs, vs, ρ, f, h, nd, oo, hl, hr, m => by
    obtain ⟨d, fs', b, vs', o, rfl, rfl, q0, q1, q2, q3, h⟩ := h
    simp only [ioA] at oo
    cases oo with
    | cons q oo =>
      simp only [putA]
      exact putA_in (ks := ks) (sh := sh) f h nd oo hl hr m
  | .io :: ks, .sl i :: sh, fs, outs, vs, ρ, f, h, nd, oo, hl, hr, m => by
    obtain ⟨v, vs', rfl, hv, h⟩ := h
    simp only [fitsA, Bool.and_eq_true, Bool.or_eq_true, decide_eq_true_eq] at f
    obtain ⟨hk, f⟩ := f
    obtain ⟨b, hb⟩ := hr i List.mem_cons_self
    rw [hv] at hb
    cases hb
    simp only [ioA] at oo
    have nd' := List.nodup_cons.mp nd
    cases oo with
    | cons q oo =>
      rename_i d outs
      obtain ⟨q1, o, q2, q3⟩ := q
      simp only [putA]
      by_cases z : j = i
      · subst z
        refine ⟨b, d, o, hv, q1, q2, q3, ?_⟩
        rw [putA_out nd'.1]
        exact List.getElem?_set_self (hl _ b ⟨hk, hv⟩)
      · simp only [slA, List.mem_cons] at m
        exact putA_in (ks := ks) (sh := sh) f h nd'.2 oo (by simpa using hl) (fun i' z' => hr i' (List.mem_cons_of_mem _ z')) (m.resolve_left z)
/-- the state behind a call -/
theorem RS.call (r : RS C Γ F ρ σ H) {ks : List Kd} {sh : List Ah} {fs ds outs : List D} {vs : List V} (hO : ∀ c, Own Γ σ c → Hs c ≠ none) (f : fitsA Γ ks sh = true) (h : AsR C.K C.ct F Hs H σ sh fs vs) (ha : asmA ρ sh fs = some ds) (nd : (slA sh).Nodup)
    (x : Ext (fun a => a ∈ ioA ks vs) F H F' H') (hs : Same F' H') (oo : OutOk C.K C.ct F' H' outs (ioA ks vs)) (hH : ∀ c, Hs c = none → C.H0 c = none) : RS C Γ F' (putA ρ sh outs) σ H' := by
  have hl : ∀ i a, Ow1 Γ σ i a → i < ρ.length := fun i a z => by rw [r.ln]; exact (List.getElem?_eq_some_iff.mp z.2).1
  have asg : ∀ {sh : List Ah} {fs ds : List D} {ks : List Kd}, fitsA Γ ks sh = true → asmA ρ sh fs = some ds → ∀ i ∈ slA sh, (Γ[i]? = some .ow ∨ Γ[i]? = some .io) ∧ ∃ d, ρ[i]? = some (some d) := by
    intro sh
    induction sh with
    | nil => intro fs ds ks _ _ i m; simp [slA] at m
    | cons a sh ih =>
      intro fs ds ks f e i m
      cases ks with
      | nil => cases a <;> simp [fitsA] at f
      | cons k ks =>
        cases a with
        | fz =>
          cases k <;> simp only [fitsA] at f <;> try (cases f; done)
          cases fs with
          | nil => simp [asmA] at e
          | cons d fs =>
            simp only [asmA] at e
            obtain ⟨ds', e1, _⟩ := Option.map_eq_some_iff.mp e
            exact ih f e1 i m
        | tm =>
          cases k <;> simp only [fitsA] at f <;> try (cases f; done)
          cases fs with
          | nil => simp [asmA] at e
          | cons d fs =>
            simp only [asmA] at e
            obtain ⟨ds', e1, _⟩ := Option.map_eq_some_iff.mp e
            exact ih f e1 i m
        | sl j =>
          cases k <;> simp only [fitsA] at f <;> try (cases f; done)
          simp only [Bool.and_eq_true, Bool.or_eq_true, decide_eq_true_eq] at f
          simp only [asmA] at e
          cases e2 : ρ[j]? with
          | none => rw [e2] at e; cases e
          | some y =>
            rw [e2] at e
            cases y with
            | none => cases e
            | some d =>
              obtain ⟨ds', e1, _⟩ := Option.map_eq_some_iff.mp e
              simp only [slA, List.mem_cons] at m
              rcases m with rfl | m
              · exact ⟨f.1, d, e2⟩
              · exact ih f.2 e1 i m
  have hr : ∀ i ∈ slA sh, ∃ a, σ[i]? = some (some (.ref a)) := fun i m => by
    obtain ⟨hk, d, hd⟩ := asg f ha i m
    obtain ⟨k, hk1, hk2⟩ : ∃ k, Γ[i]? = some k ∧ k ≠ .fz := by
      rcases hk with hk | hk
      · exact ⟨_, hk, by decide⟩
      · exact ⟨_, hk, by decide⟩
    obtain ⟨a, o, z1, _⟩ := r.ow i d k hk1 hk2 hd
    exact ⟨a, z1⟩
  have kfz : ∀ i, Γ[i]? = some .fz → i ∉ slA sh := fun i hi m => by
    obtain ⟨hk, _⟩ := asg f ha i m
    rw [hi] at hk
    rcases hk with hk | hk <;> cases hk
  have x' : Ext (fun b => Own Γ σ b ∨ C.H0 b = none) F H F' H' := x.sub fun a m => by
    rcases as_ioa f h m with ⟨i, _, z⟩ | z
    · exact .inl (.inl ⟨i, z⟩)
    · exact .inl (.inr (hH a z))
  refine ⟨hs, r.ext.then x' fun c z => z.elim (r.own_io c) .inr, by rw [putA_len]; exact r.ln, r.lg, fun i hi => ?_, fun i d h1 h2 => ?_, fun i d k h1 h2 h3 => ?_, r.dj, fun p hp => ?_⟩
  · by_cases m : i ∈ slA sh
    · obtain ⟨a, d, o, _, _, _, _, q⟩ := putA_in (j := i) f h nd oo hl hr m
      rw [hi] at q; cases q
    · rw [putA_out m] at hi; exact r.no i hi
  · rw [putA_out (kfz i h1)] at h2
    obtain ⟨u, e1, e2⟩ := r.fz i d h1 h2
    exact ⟨u, e1, e2.mono x.f⟩
  · by_cases m : i ∈ slA sh
    · obtain ⟨a, d', o, q1, q2, q3, q4, q5⟩ := putA_in (j := i) f h nd oo hl hr m
      rw [h3] at q5
      cases q5
      obtain ⟨_, d0, hd0⟩ := asg f ha i m
      obtain ⟨a', o', y1, y2, y3, y4, y5, y6⟩ := r.ow i d0 k h1 h2 hd0
      rw [q1] at y1
      cases y1
      exact ⟨a, o, q1, q2, q3, q4, y5, y6⟩
    · rw [putA_out m] at h3
      obtain ⟨a, o, y1, y2, y3, y4, y5, y6⟩ := r.ow i d k h1 h2 h3
      have oi : Ow1 Γ σ i a := ⟨by
        cases k with
        | fz => exact absurd rfl h2
        | ow => exact .inl h1
        | io => exact .inr h1, y1⟩
      have na : a ∉ ioA ks vs := fun z => by
        rcases as_ioa f h z with ⟨j, z1, z2⟩ | z
        · exact m (by rw [r.dj i j a oi z2]; exact z1)
        · exact hO a ⟨i, oi⟩ z
      have h4 := x.h a o y3 na
      refine ⟨a, o, y1, ?_, h4, y4.mono x.f, y5, y6⟩
      cases ef : F' a with
      | none => rfl
      | some z =>
        rcases x.g a (by rw [ef]; simp) with z | z
        · exact absurd y2 z
        · rw [y3] at z; cases z
  · obtain ⟨q1, q2, d, q3⟩ := r.hio p hp
    refine ⟨q1, q2, ?_⟩
    by_cases m : p.1 ∈ slA sh
    · obtain ⟨a, d', o, _, _, _, _, q⟩ := putA_in (j := p.1) f h nd oo hl hr m
      exact ⟨d', q⟩
    · exact ⟨d, by rw [putA_out m]; exact q3⟩
end
/-- f(..), some of what is handed in changed: the mirror -/
def mCallH (sh : List Ah) (MF : MFn) (m : M (List D)) : M D := m.bind fun fs => fun ρ => match asmA ρ sh fs with
  | none => .no
  | some ds => match MF ds with
    | .ok d outs => .ok d (putA ρ sh outs)
    | .er x outs => .er x (putA ρ sh outs)
    | .no => .no
def rRo (S : Sg) (ro : Bool) : Rel D V := fun H F' H' d v => RtC S.C.K S.C.ct ro H F' H' d v
theorem rRo_late {S : Sg} {ro : Bool} : (rRo S ro).Late := fun H H1 F' H' d v k h => by
  cases ro with
  | false => exact h
  | true =>
    obtain ⟨a, o, e, q, r⟩ := (show (∃ a o, v = .ref a ∧ H1 a = none ∧ F' a = none ∧ H' a = some o ∧ OwO S.C.K S.C.ct F' d o) from h)
    refine (show (∃ a o, v = .ref a ∧ H a = none ∧ F' a = none ∧ H' a = some o ∧ OwO S.C.K S.C.ct F' d o) from ⟨a, o, e, ?_, r⟩)
    cases e0 : H a with
    | none => rfl
    | some x => exact absurd q (k a (by rw [e0]; simp))
section
variable {X : Cx} {S : Sg} {Γ : List Kd} {k : Nat} {f : Addr} {fd : FuncData} {ps : List Str} {x : Str} {p pos : Pos} {e : Expr} {es : List Expr} {ks : List Kd} {MF : MFn} {sh : List Ah} {ma : M (List D)} {ro : Bool}
theorem tr_h (hge : GeLe Γ S.ge) (hf : fitsA Γ ks sh = true) (nd : (slA sh).Nodup) (ht : tmA sh ≤ 1) {n : Nat} (hl : ks.length = n) {σ : L2.St} {H : Hp} {Q : VK} (q : Tr S Γ (rRo S ro) (mCallH sh MF ma) σ H Q) :
    tG n 0 (SpG S.C.K S.C.ct ks ro MF) (fun vs _ => vs) S.W (fun σ H Q => Tr S Γ (rAs S σ sh) ma σ H Q) tNil σ H Q := by
  obtain ⟨F, q⟩ := q
  obtain ⟨ρ0, rs0, _⟩ := id q
  refine ⟨F, (TrF.raw (R1 := rAs S σ sh) q).mono fun vs H1 ⟨fs, F1, ρ, r, x1, rs, h⟩ => ?_⟩
  have hO : ∀ c, Own Γ σ c → H c ≠ none := fun c z => by obtain ⟨_, o, e⟩ := rs0.own_some z; rw [e]; simp
  have hH : ∀ c, H c = none → S.C.H0 c = none := fun c z => by
    cases e : S.C.H0 c with
    | none => rfl
    | some y => exact absurd z (rs0.ext.n c (by rw [e]; simp))
  cases ea : asmA ρ sh fs with
  | none => simp only [ea] at h
  | some ds =>
    simp only [ea] at h
    have hA := as_arl rs hf r ea
    have hn := as_nodup rs hO hf r nd ht
    refine ⟨by rw [hA.len.2]; exact hl, rfl, F1, ds, rs.sub, hA, hn.1, ?_⟩
    have up : ∀ {F' H'}, Ext (fun a => a ∈ ioA ks vs) F1 H1 F' H' → Ext (Own Γ σ) F H F' H' := fun {F' H'} x2 => by
      have y1 : Ext (fun b => Own Γ σ b ∨ H b = none) F H F1 H1 := x1.sub fun b z => .inl (.inl z)
      have y2 : Ext (fun b => Own Γ σ b ∨ H b = none) F1 H1 F' H' := x2.sub fun b m => by
        rcases as_ioa hf r m with ⟨i, _, z⟩ | z
        · exact .inl (.inl ⟨i, z⟩)
        · exact .inl (.inr z)
      exact (y1.trans y2).sub fun b z => z
    cases em : MF ds with
    | no => simp only [em] at h
    | ok d outs =>
      simp only [em] at h
      intro v F' H' x2 hs rt oo
      exact h v F' H' (RS.call rs hO hf r ea nd x2 hs oo hH) (up x2) (rRo_late H H1 F' H' d v x1.n rt)
    | er z outs =>
      simp only [em] at h
      intro cl dx F' H' x2 hs rx oo
      obtain ⟨F2, sm, re⟩ := RE.le (RS.call rs hO hf r ea nd x2 hs oo hH) hge
      exact h cl dx F2 H' (x1.f.trans (x2.f.trans sm)) re (rx.mono sm)
/-- frozen result; a new object -/
theorem e_h (F : Fn X k f fd ps (SpG S.C.K S.C.ct ks false MF)) (hm : X.mg x = some (.ref f)) (hk : PySem.W.keepIn X.K (.ref f) = true) (hb : BnF X.K fd ps) (tk : Takes X S.W) (hge : GeLe Γ S.ge) (ha : EvH X S Γ sh (e :: es) ma) (hl : ks.length = ps.length := by rfl) (hf : fitsA Γ ks sh = true := by rfl) (nd : (slA sh).Nodup := by decide) (ht : tmA sh ≤ 1 := by decide) (hg : Gl X x := by rfl)
    (hdb : (x == ("__debug__" : Str)) = false := by decide) (he : starEach (e :: es) X.env = (false, eval e X.env) :: starEach es X.env := by rfl) (hpl : (backTo pos (starEach es X.env)).any (·.1) = false := by rfl) :
    EvE X S Γ (.Call (.Name x p) (e :: es) [] pos) (mCallH sh MF ma) := pe_imp (pe_g F hm hk hb tk ha hg hdb he hpl) fun σ H Q q => tr_h (ro := false) hge hf nd ht hl q
theorem o_h (F : Fn X k f fd ps (SpG S.C.K S.C.ct ks true MF)) (hm : X.mg x = some (.ref f)) (hk : PySem.W.keepIn X.K (.ref f) = true) (hb : BnF X.K fd ps) (tk : Takes X S.W) (hge : GeLe Γ S.ge) (ha : EvH X S Γ sh (e :: es) ma) (hl : ks.length = ps.length := by rfl) (hf : fitsA Γ ks sh = true := by rfl) (nd : (slA sh).Nodup := by decide) (ht : tmA sh ≤ 1 := by decide) (hg : Gl X x := by rfl)
    (hdb : (x == ("__debug__" : Str)) = false := by decide) (he : starEach (e :: es) X.env = (false, eval e X.env) :: starEach es X.env := by rfl) (hpl : (backTo pos (starEach es X.env)).any (·.1) = false := by rfl) :
    EvO X S Γ (.Call (.Name x p) (e :: es) [] pos) (mCallH sh MF ma) := pe_imp (pe_g F hm hk hb tk ha hg hdb he hpl) fun σ H Q q => tr_h (ro := true) hge hf nd ht hl q
end
end G
/-! G13: methods of a slot's own list, stores into it, several names at once. -/
namespace G
open PySem PySem.Spec PyProof.Rows L2
/-! ### methods that change a slot's own object -/
def MtOk (K : Frag) (ct : Ct) (r : V → List V → Hp → VK → Prop) (h : D → List D → Option (D × D)) : Prop := ∀ (F H : Hp) (a : Addr) (o : HO) (d : D) (ds : List D) (vs : List V) (z d' : D) (Q : VK), F a = none → H a = some o → OwO K ct F d o → Same F H → RpL K ct F ds vs → h d ds = some (z, d') →
  (∀ v o', Rp K ct F z v → OwO K ct F d' o' → Q v (upd H a o')) → r (.ref a) vs H Q
def hAppend : D → List D → Option (D × D)
  | .lst xs, [y] => if xs.length < sizeLine then some (.non, .lst (xs ++ [y])) else none
  | _, _ => none
def hExtend : D → List D → Option (D × D)
  | .lst xs, [.lst ys] => if xs.length + ys.length ≤ sizeLine then some (.non, .lst (xs ++ ys)) else none
  | _, _ => none
def hPop : D → List D → Option (D × D)
  | .lst xs, [] => (xs[xs.length - 1]?).map fun y => (y, .lst xs.dropLast)
  | _, _ => none
def hPopAt : D → List D → Option (D × D)
  | .lst xs, [.int i] => if -(2 ^ 63) ≤ i ∧ i < 2 ^ 63 then (seqIndex? i xs.length).bind fun k => (xs[k]?).map fun y => (y, .lst (xs.eraseIdx k)) else none
  | _, _ => none
theorem rpl_dropLast {K : Frag} {ct : Ct} {F : Hp} {ds : List D} {vs : List V} (h : RpL K ct F ds vs) : RpL K ct F ds.dropLast vs.dropLast := by
  rw [List.dropLast_eq_take, List.dropLast_eq_take, h.length]
  exact h.take _
theorem rpl_erase {K : Frag} {ct : Ct} {F : Hp} : ∀ {ds : List D} {vs : List V} (h : RpL K ct F ds vs) (k : Nat), RpL K ct F (ds.eraseIdx k) (vs.eraseIdx k)
  | [], vs, h, k => by rw [rpl_nil.mp h]; exact rpl_nil.mpr rfl
  | d :: ds, vs, h, 0 => by
    obtain ⟨v, r, rfl, h1, h2⟩ := rpl_cons.mp h
    exact h2
  | d :: ds, vs, h, k + 1 => by
    obtain ⟨v, r, rfl, h1, h2⟩ := rpl_cons.mp h
    exact rpl_cons.mpr ⟨v, _, rfl, h1, rpl_erase h2 k⟩
theorem owo_lst {K : Frag} {ct : Ct} {F : Hp} {xs : List D} {o : HO} (h : OwO K ct F (.lst xs) o) : ∃ vs, o = .lst vs ∧ RpL K ct F xs vs := by
  generalize e : D.lst xs = d at h
  cases h with
  | lst h => cases e; exact ⟨_, rfl, h⟩
  | dK _ _ => cases e
  | dT _ _ => cases e
  | ins _ _ => cases e
section
variable {K : Frag} {ct : Ct}
theorem mk_append : MtOk K ct rAppend hAppend := by
  intro F H a o d ds vs z d' Q hf ha ho hs r e q
  unfold hAppend at e
  split at e
  · split at e
    · rename_i hz
      cases e
      obtain ⟨ws, rfl, h⟩ := owo_lst ho
      obtain ⟨v, w, rfl, r1, r2⟩ := rpl_cons.mp r
      rw [rpl_nil.mp r2]
      exact ⟨a, ws, v, rfl, rfl, ha, by rw [← h.length]; exact hz, q _ _ (rp_non.mpr rfl) (.lst (h.append (.one r1)))⟩
    · cases e
  · cases e
theorem mk_extend : MtOk K ct rExtend hExtend := by
  intro F H a o d ds vs z d' Q hf ha ho hs r e q
  unfold hExtend at e
  split at e
  · split at e
    · rename_i hz
      cases e
      obtain ⟨ws, rfl, h⟩ := owo_lst ho
      obtain ⟨v, w, rfl, r1, r2⟩ := rpl_cons.mp r
      rw [rpl_nil.mp r2]
      obtain ⟨b, us, rfl, h1, h2⟩ := rp_lst.mp r1
      exact ⟨a, b, ws, us, rfl, rfl, ha, hs _ _ h1, by rw [← h.length, ← h2.length]; exact hz, q _ _ (rp_non.mpr rfl) (.lst (h.append h2))⟩
    · cases e
  · cases e
theorem mk_pop : MtOk K ct rPop hPop := by
  intro F H a o d ds vs z d' Q hf ha ho hs r e q
  unfold hPop at e
  split at e
  · obtain ⟨y, e1, e2⟩ := Option.map_eq_some_iff.mp e
    cases e2
    obtain ⟨ws, rfl, h⟩ := owo_lst ho
    rw [rpl_nil.mp r]
    obtain ⟨u, e3, e4⟩ := h.get e1
    exact ⟨a, ws, u, rfl, rfl, ha, by rw [← h.length]; exact e3, q _ _ e4 (.lst (rpl_dropLast h))⟩
  · cases e
theorem mk_popAt : MtOk K ct rPopAt hPopAt := by
  intro F H a o d ds vs z d' Q hf ha ho hs r e q
  unfold hPopAt at e
  split at e
  · split at e
    · rename_i hb
      obtain ⟨k, e1, e2⟩ := Option.bind_eq_some_iff.mp e
      obtain ⟨y, e3, e4⟩ := Option.map_eq_some_iff.mp e2
      cases e4
      obtain ⟨ws, rfl, h⟩ := owo_lst ho
      obtain ⟨u, e5, e6⟩ := h.get e3
      exact ⟨a, ws, _, k, u, rfl, rpl_int1 r, ha, hb.1, hb.2, by rw [← h.length]; exact e1, e5, q _ _ e6 (.lst (rpl_erase h k))⟩
    · cases e
  · cases e
end
def mMt (i : Nat) (h : D → List D → Option (D × D)) (ms : M (List D)) : M D := (mV i).bind fun _ => ms.bind fun ds => fun ρ => match ρ[i]? with
  | some (some d) => match h d ds with
    | some (z, d') => .ok z (ρ.set i (some d'))
    | none => .no
  | _ => .no
section
variable {X : Cx} {S : Sg} {Γ : List Kd}
theorem sqL_own {K : Frag} {ct : Ct} {F H : Hp} {xs : List D} {a : Addr} {o : HO} (ha : H a = some o) (h : OwO K ct F (.lst xs) o) : ∃ vs, SqL K H a vs := by
  obtain ⟨ws, rfl, _⟩ := owo_lst h
  exact ⟨ws, SqL.of ha⟩
/-- the receiver is a slot's own list -/
def isLst : D → Bool
  | .lst _ => true
  | _ => false
def mMl (i : Nat) (h : D → List D → Option (D × D)) (ms : M (List D)) : M D := fun ρ => match ρ[i]? with
  | some (some d) => if isLst d = true then mMt i h ms ρ else .no
  | _ => .no
theorem tr_mt {i : Nat} {k : Kd} {h : D → List D → Option (D × D)} {ms : M (List D)} {r : V → List V → Hp → VK → Prop} (hk : Γ[i]? = some k) (hn : k ≠ .fz) (hr : MtOk S.C.K S.C.ct r h) {σ : L2.St} {H : Hp} {Q : VK} (q : Tr S Γ (rD S) (mMl i h ms) σ H Q) :
    tBM S.C.K "list" r (tVar i) (Tr S Γ (rL S) ms) σ H Q := by
  obtain ⟨F, ρ, rs, q⟩ := q
  unfold mMl at q
  cases e : ρ[i]? with
  | none => rw [e] at q; exact q.elim
  | some y =>
    cases y with
    | none => rw [e] at q; exact q.elim
    | some d =>
      rw [e] at q
      simp only at q
      cases hl : isLst d with
      | false => rw [hl] at q; exact (show False from q).elim
      | true =>
        rw [hl] at q
        obtain ⟨a, o, h1, h2, h3, h4, _⟩ := rs.ow i d k hk hn e
        have hl' : ∃ xs, d = .lst xs := by cases d <;> simp [isLst] at hl; exact ⟨_, rfl⟩
        obtain ⟨xs, rfl⟩ := hl'
        refine ⟨.ref a, h1, .inl ⟨rfl, sqL_own h3 h4⟩, F, ?_⟩
        have q' : TrF S Γ (rD S) (ms.bind fun ds => fun ρ => match ρ[i]? with
          | some (some d) => match h d ds with
            | some (z, d') => .ok z (ρ.set i (some d'))
            | none => .no
          | _ => .no) F σ H Q := by
          refine ⟨ρ, rs, ?_⟩
          have e0 : mMt i h ms ρ = (ms.bind fun ds => fun ρ => match ρ[i]? with
            | some (some d) => match h d ds with
              | some (z, d') => .ok z (ρ.set i (some d'))
              | none => .no
            | _ => .no) ρ := by
            unfold mMt mV
            show M.bind _ _ ρ = _
            unfold M.bind
            simp only [e]
          rw [← e0]
          exact q
        refine (TrF.bind (R1 := rL S) rD_late q').mono fun vs H1 ⟨ds, F1, r1, x1, q⟩ => ?_
        obtain ⟨ρ1, rs1, q⟩ := q
        simp only at q
        cases e1 : ρ1[i]? with
        | none => rw [e1] at q; exact q.elim
        | some y =>
          cases y with
          | none => rw [e1] at q; exact q.elim
          | some d1 =>
            rw [e1] at q
            simp only at q
            cases e2 : h d1 ds with
            | none => rw [e2] at q; exact q.elim
            | some zd =>
              obtain ⟨z, d'⟩ := zd
              rw [e2] at q
              obtain ⟨b, o1, z1, z2, z3, z4, _⟩ := rs1.ow i d1 k hk hn e1
              rw [h1] at z1
              cases z1
              have ow : Ow1 Γ σ i a := ⟨by
                cases k with
                | fz => exact absurd rfl hn
                | ow => exact .inl hk
                | io => exact .inr hk, h1⟩
              refine hr F1 H1 a o1 d1 ds vs z d' Q z2 z3 z4 rs1.sub r1 e2 fun v o' rz ro => ?_
              exact q v F1 (upd H1 a o') (rs1.write ow ro) (Ext.wr ⟨i, ow⟩) rz
theorem e_mt {i : Nat} {k : Kd} {id : String} {name : Str} {h : D → List D → Option (D × D)} {ms : M (List D)} {r : V → List V → Hp → VK → Prop} {o e : Expr} {es : List Expr} {apos cpos : Pos} (slot : Slot "list" name id) (hty : typeOf (.builtin id) = pure (.type "method_descriptor")) (hm : MtR X id r) (hr : MtOk S.C.K S.C.ct r h) (ho : PE X o (tVar i)) (ha : EvA X S Γ (e :: es) ms) (hk : Γ[i]? = some k) (hn : k ≠ .fz) (hK : S.C.K = X.K)
    (hbase : attributeBase o name X.env (eval o X.env) = eval o X.env := by rfl)
    (hfew : ((backTo cpos (starEach (e :: es) X.env)).all (fun x => !x.1) && (backToKw cpos (keywordEach [] X.env)).all (fun x => x.1.isSome) && decide ((e :: es).length + ([] : List Keyword).length + (if ([] : List Keyword).isEmpty then 0 else 1) < 30)) = true := by rfl)
    (hline : (apos.endLine == cpos.line) = true := by rfl) (hs : starEach (e :: es) X.env = (false, eval e X.env) :: starEach es X.env := by rfl) (hplain : (backTo cpos (starEach es X.env)).any (·.1) = false := by rfl) :
    EvE X S Γ (.Call (.Attribute o name apos) (e :: es) [] cpos) (mMl i h ms) := pe_imp (pe_bm F.plainAttrs_list slot hty hm ho ha hbase hfew hline hs hplain) fun σ H Q q => by
  rw [← hK]
  exact tr_mt hk hn hr q
theorem e_mt0 {i : Nat} {k : Kd} {id : String} {name : Str} {h : D → List D → Option (D × D)} {r : V → List V → Hp → VK → Prop} {o : Expr} {apos cpos : Pos} (slot : Slot "list" name id) (hty : typeOf (.builtin id) = pure (.type "method_descriptor")) (hm : MtR X id r) (hr : MtOk S.C.K S.C.ct r h) (ho : PE X o (tVar i)) (hk : Γ[i]? = some k) (hn : k ≠ .fz) (hK : S.C.K = X.K)
    (hbase : attributeBase o name X.env (eval o X.env) = eval o X.env := by rfl) (hline : (apos.endLine == cpos.line) = true := by rfl) :
    EvE X S Γ (.Call (.Attribute o name apos) [] [] cpos) (mMl i h mNil) := pe_imp (pe_bm0 F.plainAttrs_list slot hty hm ho hbase hline) fun σ H Q q => by
  rw [← hK]
  obtain ⟨v, h1, h2, h3⟩ := tr_mt hk hn hr q
  refine ⟨v, h1, h2, ?_⟩
  obtain ⟨F, h3⟩ := h3
  exact h3.ret0 (rpl_nil.mpr rfl)
end
/-! ### stores -/
def TgW (S : Sg) (Γ Γ' : List Kd) (g : MG) : TG := fun v σ H Q => ∃ F ρ d ρ', RS S.C Γ F ρ σ H ∧ Rp S.C.K S.C.ct F d v ∧ g d ρ = some ρ' ∧ ∀ σ' F' H', Same F F' → RS S.C Γ' F' ρ' σ' H' → Q σ' H'
def TgWs (S : Sg) (Γ Γ' : List Kd) (g : MGs) : TGs := fun vs σ H Q => ∃ F ρ ds ρ', RS S.C Γ F ρ σ H ∧ RpL S.C.K S.C.ct F ds vs ∧ g ds ρ = some ρ' ∧ ∀ σ' F' H', Same F F' → RS S.C Γ' F' ρ' σ' H' → Q σ' H'
def EvGW (X : Cx) (S : Sg) (Γ Γ' : List Kd) (e : Expr) (g : MG) : Prop := PG X e (TgW S Γ Γ' g)
def EvGWs (X : Cx) (S : Sg) (Γ Γ' : List Kd) (e : List Expr) (g : MGs) : Prop := PGs X e (TgWs S Γ Γ' g)
section
variable {X : Cx} {S : Sg} {Γ Γ' Γ1 : List Kd} {pos : Pos}
theorem gw_of {is : List Nat} {e : Expr} {g : MG} (h : EvG X S Γ Γ' is e g) : EvGW X S Γ Γ' e g := pg_imp h fun v σ H Q ⟨F, ρ, d, ρ', rs, r, e, q⟩ => ⟨F, ρ, d, ρ', rs, r, e, fun σ' _ rs' => q σ' F H (Same.refl _) rs'⟩
theorem gw_nil : EvGWs X S Γ Γ [] gE := pgs_imp pgs_nil fun vs σ H Q ⟨F, ρ, ds, ρ', rs, r, e, q⟩ => by
  cases ds with
  | nil =>
    simp only [gE] at e
    cases e
    exact ⟨rpl_nil.mp r, q _ F H (Same.refl _) rs⟩
  | cons d r => simp only [gE] at e; cases e
theorem gw_cons {e : Expr} {es : List Expr} {g : MG} {gs : MGs} (h1 : EvGW X S Γ Γ1 e g) (h2 : EvGWs X S Γ1 Γ' es gs) (hs : (assignEach (e :: es) X.env).map (·.2) = assign e X.env :: (assignEach es X.env).map (·.2) := by rfl) : EvGWs X S Γ Γ' (e :: es) (gC g gs) :=
  pgs_imp (pgs_cons h1 h2 hs) fun vs σ H Q ⟨F, ρ, ds, ρ', rs, r, e, q⟩ => by
    cases ds with
    | nil => simp only [gC] at e; cases e
    | cons d ds =>
      simp only [gC] at e
      obtain ⟨ρ1, e1, e2⟩ := Option.bind_eq_some_iff.mp e
      obtain ⟨v, vr, rfl, r1, r2⟩ := rpl_cons.mp r
      exact ⟨v, vr, rfl, F, ρ, d, ρ1, rs, r1, e1, fun σ1 F1 H1 s1 rs1 => ⟨F1, ρ1, ds, ρ', rs1, r2.mono s1, e2, fun σ2 F2 H2 s2 rs2 => q σ2 F2 H2 (s1.trans s2) rs2⟩⟩
theorem gw_tup {es : List Expr} {k : Nat} {gs : MGs} {n : Nat} (hc : X.calm = true) (h : EvGWs X S Γ Γ' es gs) (hK : S.C.K = X.K) (hn : (assignEach es X.env).length = n := by rfl) (hst : (assignEach es X.env).findIdx? (·.1) = none := by rfl) :
    EvGW X S Γ Γ' (.Tuple es k pos) (gT n gs) := pg_imp (pg_tup hc h hn hst) fun v σ H Q ⟨F, ρ, d, ρ', rs, r, e, q⟩ => by
  cases d <;> simp only [gT] at e <;> try (cases e; done)
  split at e
  · rename_i hl
    obtain ⟨a, vs, rfl, h1, h2⟩ := rp_tup.mp r
    exact ⟨a, vs, rfl, by rw [← hK]; exact same_t rs.sub h1, by rw [← h2.length]; exact hl, F, ρ, _, ρ', rs, h2, e, q⟩
  · cases e
/-- slot[k] = -/
def gSb (i : Nat) (mi : M D) : MG := fun d ρ => match ρ[i]? with
  | some (some _) => match mi ρ with
    | .ok (.int k) ρ1 => match ρ1[i]? with
      | some (some (.lst xs)) => (ixN xs.length k).map fun j => ρ1.set i (some (.lst (xs.set j d)))
      | _ => none
    | _ => none
  | _ => none
theorem gw_sub {i : Nat} {kd : Kd} {o ix : Expr} {mi : M D} (ho : PE X o (tVar i)) (hi : EvE X S Γ ix mi) (hk : Γ[i]? = some kd) (hn : kd ≠ .fz)
    (ha : ∀ v, assign (.Subscript o ix pos) X.env v = (do
      let ov ← holding [v] (eval o X.env)
      let iv ← holding [v, ov] (eval ix X.env)
      standAt pos
      holding [v, ov, iv] (setItem ov iv v)
      release [v, ov, iv] []) := by intro _; rfl) : EvGW X S Γ Γ (.Subscript o ix pos) (gSb i mi) := pg_imp (pg_sub ho hi set_list ha) fun v σ H Q ⟨F, ρ, d, ρ', rs, r, e, q⟩ => by
  unfold gSb at e
  have ⟨d0, hd0, e⟩ : ∃ d0, ρ[i]? = some (some d0) ∧ (match mi ρ with
    | .ok (.int k) ρ1 => match ρ1[i]? with
      | some (some (.lst xs)) => (ixN xs.length k).map fun j => ρ1.set i (some (.lst (xs.set j d)))
      | _ => none
    | _ => none) = some ρ' := by
    cases e0 : ρ[i]? with
    | none => rw [e0] at e; cases e
    | some y =>
      cases y with
      | none => rw [e0] at e; cases e
      | some d0 => rw [e0] at e; exact ⟨d0, rfl, e⟩
  cases e1 : mi ρ with
  | no => rw [e1] at e; cases e
  | er x ρ1 => rw [e1] at e; cases e
  | ok di ρ1 =>
    rw [e1] at e
    cases di <;> simp only at e <;> try (cases e; done)
    rename_i kk
    cases e2 : ρ1[i]? with
    | none => rw [e2] at e; cases e
    | some y =>
      cases y with
      | none => rw [e2] at e; cases e
      | some d1 =>
        rw [e2] at e
        cases d1 <;> simp only at e <;> try (cases e; done)
        rename_i xs
        obtain ⟨j, e3, e4⟩ := Option.map_eq_some_iff.mp e
        subst e4
        obtain ⟨u0, hu0, _⟩ := RS.rv rs hd0
        refine ⟨u0, hu0, F, ρ, rs, ?_⟩
        rw [e1]
        intro iv F1 H1 rs1 x1 ri
        obtain ⟨a, o, z1, z2, z3, z4, _⟩ := rs1.ow i _ kd hk hn e2
        obtain ⟨ws, rfl, hw⟩ := owo_lst z4
        rw [hu0] at z1
        cases z1
        have ow : Ow1 Γ σ i a := ⟨by
          cases kd with
          | fz => exact absurd rfl hn
          | ow => exact .inl hk
          | io => exact .inr hk, hu0⟩
        refine ⟨a, ws, kk, j, rfl, rp_int.mp ri, z3, by rw [← hw.length]; exact e3, ?_⟩
        exact q σ F1 _ x1.f (rs1.write ow (.lst (hw.set (r.mono x1.f) j)))
end
end G
/-! G14: target = value with stores; several names at once, some to new objects. -/
namespace G
open PySem PySem.Spec PyProof.Rows L2
section
variable {X : Cx} {S : Sg} {Γ Γ' Γ1 : List Kd} {pos : Pos}
theorem s_asgW {tg e : Expr} {m : M D} {g : MG} (he : EvE X S Γ e m) (hg : EvGW X S Γ Γ' tg g) (hs : swapsWithSole [tg] e pos.line X.env = pure false := by rfl) (hw : swappedStores [tg] e X.env = pure none := by rfl) (h1 : (assignEach [tg] X.env).map (·.2) = [assign tg X.env] := by rfl) :
    EvS X S Γ Γ' (.Assign [tg] e pos) (mAsg g m) := ps_imp (ps_asg he hg hs hw h1) fun D σ H h => by
  refine (Ts.of (R := rD S) h).mono fun v H1 ⟨d, F1, ρ1, q, _, rs, h⟩ => ?_
  cases e : g d ρ1 with
  | none => rw [e] at h; exact h.elim
  | some ρ2 =>
    rw [e] at h
    exact ⟨F1, ρ1, d, ρ2, rs, q, e, fun σ' F' H' sm rs' => h σ' F' H' sm rs'⟩
end
/-! ### values, some of them new objects -/
def owAd : List Bool → List V → List Addr
  | true :: bs, .ref a :: vs => a :: owAd bs vs
  | _ :: bs, _ :: vs => owAd bs vs
  | _, _ => []
def PnR (K : Frag) (ct : Ct) (F H : Hp) (no : Addr → Prop) : List Bool → List D → List V → Prop
  | [], ds, vs => ds = [] ∧ vs = []
  | false :: bs, ds, vs => ∃ d ds' v vs', ds = d :: ds' ∧ vs = v :: vs' ∧ Rp K ct F d v ∧ PnR K ct F H no bs ds' vs'
  | true :: bs, ds, vs => ∃ d ds' a vs' o, ds = d :: ds' ∧ vs = .ref a :: vs' ∧ no a ∧ F a = none ∧ H a = some o ∧ OwO K ct F d o ∧ (∀ b ∈ owAd bs vs', b ≠ a) ∧ PnR K ct F H no bs ds' vs'
def rPn (S : Sg) (bs : List Bool) : Rel (List D) (List V) := fun Hs F H ds vs => PnR S.C.K S.C.ct F H (fun a => Hs a = none) bs ds vs
section
variable {K : Frag} {ct : Ct} {F F' H H' : Hp} {no no' : Addr → Prop}
theorem PnR.imp (k : ∀ a, no a → no' a) : ∀ {bs : List Bool} {ds : List D} {vs : List V}, PnR K ct F H no bs ds vs → PnR K ct F H no' bs ds vs
  | [], _, _, h => h
  | false :: bs, ds, vs, h => by obtain ⟨d, ds', v, vs', e1, e2, r, h⟩ := h; exact ⟨d, ds', v, vs', e1, e2, r, h.imp k⟩
  | true :: bs, ds, vs, h => by obtain ⟨d, ds', a, vs', o, e1, e2, q0, q1, q2, q3, q4, h⟩ := h; exact ⟨d, ds', a, vs', o, e1, e2, k _ q0, q1, q2, q3, q4, h.imp k⟩
theorem PnR.ad : ∀ {bs : List Bool} {ds : List D} {vs : List V} {b : Addr}, PnR K ct F H no bs ds vs → b ∈ owAd bs vs → no b
  | [], _, _, b, h, m => by obtain ⟨rfl, rfl⟩ := h; simp [owAd] at m
  | false :: bs, ds, vs, b, h, m => by
    obtain ⟨d, ds', v, vs', rfl, rfl, r, h⟩ := h
    have m' : b ∈ owAd bs vs' := by cases v <;> exact m
    exact h.ad m'
  | true :: bs, ds, vs, b, h, m => by
    obtain ⟨d, ds', a, vs', o, rfl, rfl, q0, q1, q2, q3, q4, h⟩ := h
    simp only [owAd, List.mem_cons] at m
    rcases m with rfl | m
    · exact q0
    · exact h.ad m
theorem PnR.len : ∀ {bs : List Bool} {ds : List D} {vs : List V}, PnR K ct F H no bs ds vs → ds.length = bs.length ∧ vs.length = bs.length
  | [], _, _, h => by obtain ⟨rfl, rfl⟩ := h; exact ⟨rfl, rfl⟩
  | false :: bs, ds, vs, h => by obtain ⟨d, ds', v, vs', rfl, rfl, r, h⟩ := h; have := h.len; simp [this.1, this.2]
  | true :: bs, ds, vs, h => by obtain ⟨d, ds', a, vs', o, rfl, rfl, q0, q1, q2, q3, q4, h⟩ := h; have := h.len; simp [this.1, this.2]
/-- one more object in the heap -/
theorem PnR.newH {p : Addr} {ob : HO} (hp : H p = none) : ∀ {bs : List Bool} {ds : List D} {vs : List V}, PnR K ct F H no bs ds vs → PnR K ct F (upd H p ob) no bs ds vs
  | [], _, _, h => h
  | false :: bs, ds, vs, h => by obtain ⟨d, ds', v, vs', e1, e2, r, h⟩ := h; exact ⟨d, ds', v, vs', e1, e2, r, h.newH hp⟩
  | true :: bs, ds, vs, h => by obtain ⟨d, ds', a, vs', o, e1, e2, q0, q1, q2, q3, q4, h⟩ := h; exact ⟨d, ds', a, vs', o, e1, e2, q0, q1, by rw [upd_ne (ne_of_none q2 hp)]; exact q2, q3, q4, h.newH hp⟩
end
def EvM (X : Cx) (S : Sg) (Γ : List Kd) (bs : List Bool) (es : List Expr) (m : M (List D)) : Prop := PA X es (Tr S Γ (rPn S bs) m)
section
variable {X : Cx} {S : Sg} {Γ Γ' Γ1 : List Kd} {pos : Pos}
theorem v_nil : EvM X S Γ [] [] mNil := pa_imp pa_nil fun σ H Q ⟨F, h⟩ => h.ret0 ⟨rfl, rfl⟩
theorem v_fz {bs : List Bool} {e : Expr} {es : List Expr} {m : M D} {n : M (List D)} (h : EvE X S Γ e m) (h' : EvM X S Γ bs es n) (hs : starEach (e :: es) X.env = (false, eval e X.env) :: starEach es X.env := by rfl) : EvM X S Γ (false :: bs) (e :: es) (mCons m n) := pa_imp (pa_cons h h' hs) fun σ H Q ⟨F, q⟩ => by
  refine ⟨F, (TrF.bindK (R1 := rD S) q).mono fun v H1 ⟨d, F1, r, x1, q⟩ => ⟨F1, (TrF.bindK (R1 := rPn S bs) q).mono fun w H2 ⟨e, F2, q2, x2, h⟩ => ?_⟩⟩
  refine h.ret0 ⟨d, e, v, w, rfl, rfl, Rp.mono x2.f r, PnR.imp (fun a z => ?_) q2⟩
  cases e0 : H a with
  | none => rfl
  | some y => exact absurd z (x1.n a (by rw [e0]; simp))
theorem v_ow {bs : List Bool} {e : Expr} {es : List Expr} {m : M D} {n : M (List D)} (h : EvO X S Γ e m) (h' : EvM X S Γ bs es n) (hs : starEach (e :: es) X.env = (false, eval e X.env) :: starEach es X.env := by rfl) : EvM X S Γ (true :: bs) (e :: es) (mCons m n) := pa_imp (pa_cons h h' hs) fun σ H Q ⟨F, q⟩ => by
  obtain ⟨ρ0, rs0, _⟩ := id q
  refine ⟨F, (TrF.bindK (R1 := rO S) q).mono fun v H1 ⟨d, F1, r, x1, q⟩ => ⟨F1, (TrF.bindK (R1 := rPn S bs) q).mono fun w H2 ⟨e, F2, q2, x2, h⟩ => ?_⟩⟩
  obtain ⟨a, o, rfl, z1, z2, z3, z4⟩ := r
  have nO : ¬ Own Γ σ a := fun z => by
    obtain ⟨_, o', z⟩ := rs0.own_some z
    rw [z1] at z; cases z
  refine h.ret0 ⟨d, e, a, w, o, rfl, rfl, z1, ?_, x2.h a o z3 nO, z4.mono x2.f, fun b hb z => ?_, PnR.imp (fun b z => ?_) q2⟩
  · cases ef : F2 a with
    | none => rfl
    | some y =>
      rcases x2.g a (by rw [ef]; simp) with z | z
      · exact absurd z2 z
      · rw [z3] at z; cases z
  · have := PnR.ad q2 hb
    rw [z, z3] at this; cases this
  · cases e0 : H b with
    | none => rfl
    | some y => exact absurd z (x1.n b (by rw [e0]; simp))
/-! ### the slots take them -/
def kdB (b : Bool) : Kd := if b = true then .ow else .fz
def setE : Env → List Nat → List D → Env
  | ρ, i :: is, d :: ds => setE (ρ.set i (some d)) is ds
  | ρ, _, _ => ρ
def setV : L2.St → List Nat → List V → L2.St
  | σ, i :: is, v :: vs => setV (σ.set i (some v)) is vs
  | σ, _, _ => σ
def setK : List Kd → List Nat → List Bool → List Kd
  | Γ, i :: is, b :: bs => setK (Γ.set i (kdB b)) is bs
  | Γ, _, _ => Γ
def kOk (Γ : List Kd) : List Nat → Bool
  | [] => true
  | i :: is => (match Γ[i]? with
    | some .io => false
    | none => false
    | _ => true) && kOk Γ is
theorem kOk_set {i : Nat} {k : Kd} (hk : k ≠ .io) : ∀ {is : List Nat} {Γ : List Kd}, kOk Γ is = true → kOk (Γ.set i k) is = true
  | [], _, _ => rfl
  | j :: is, Γ, h => by
    simp only [kOk, Bool.and_eq_true] at h ⊢
    refine ⟨?_, kOk_set hk h.2⟩
    by_cases z : i = j
    · subst z
      have hl : i < Γ.length := by
        cases e : Γ[i]? with
        | none => rw [e] at h; cases h.1
        | some y => exact (List.getElem?_eq_some_iff.mp e).1
      rw [List.getElem?_set_self hl]
      cases k with
      | io => exact absurd rfl hk
      | fz => rfl
      | ow => rfl
    · rw [List.getElem?_set_ne z]; exact h.1
theorem RS.setAll {C : Fx} {F H : Hp} : ∀ {bs : List Bool} {is : List Nat} {ds : List D} {vs : List V} {Γ : List Kd} {ρ : Env} {σ : L2.St}, RS C Γ F ρ σ H → kOk Γ is = true → is.length = bs.length → PnR C.K C.ct F H (fun a => C.H0 a = none) bs ds vs → (∀ a ∈ owAd bs vs, ¬ Own Γ σ a) → RS C (setK Γ is bs) F (setE ρ is ds) (setV σ is vs) H
  | [], [], ds, vs, Γ, ρ, σ, r, _, _, h, _ => by obtain ⟨rfl, rfl⟩ := h; exact r
  | [], _ :: _, _, _, _, _, _, _, _, l, _, _ => by simp at l
  | _ :: _, [], _, _, _, _, _, _, _, l, _, _ => by simp at l
  | b :: bs, i :: is, ds, vs, Γ, ρ, σ, r, hk, l, h, nO => by
    simp only [kOk, Bool.and_eq_true] at hk
    obtain ⟨hk1, hk2⟩ := hk
    have hki : ∃ k, Γ[i]? = some k ∧ k ≠ .io := by
      cases e : Γ[i]? with
      | none => rw [e] at hk1; cases hk1
      | some k => exact ⟨k, rfl, fun z => by subst z; rw [e] at hk1; cases hk1⟩
    cases b with
    | false =>
      obtain ⟨d, ds', v, vs', rfl, rfl, rd, h⟩ := h
      refine RS.setAll (bs := bs) (is := is) (r.setF hki rd) (kOk_set (by decide) hk2) (by simpa using l) h fun a m z => ?_
      have m' : a ∈ owAd (false :: bs) (v :: vs') := by cases v <;> exact m
      refine nO a m' ?_
      obtain ⟨j, z1, z2⟩ := z
      by_cases zz : i = j
      · subst zz
        rw [List.getElem?_set_self (List.getElem?_eq_some_iff.mp hki.choose_spec.1).1] at z1
        rcases z1 with z1 | z1 <;> cases z1
      · rw [List.getElem?_set_ne zz] at z1 z2
        exact ⟨j, z1, z2⟩
    | true =>
      obtain ⟨d, ds', a, vs', o, rfl, rfl, q0, q1, q2, q3, q4, h⟩ := h
      refine RS.setAll (bs := bs) (is := is) (r.setO hki q3 q1 q2 q0 (nO a (by simp [owAd]))) (kOk_set (by decide) hk2) (by simpa using l) h fun b m z => ?_
      obtain ⟨j, z1, z2⟩ := z
      by_cases zz : i = j
      · subst zz
        have hl : i < σ.length := by rw [← r.lg]; exact (List.getElem?_eq_some_iff.mp hki.choose_spec.1).1
        rw [List.getElem?_set_self hl] at z2
        cases z2
        exact q4 _ m rfl
      · rw [List.getElem?_set_ne zz] at z1 z2
        exact nO b (by simp [owAd, m]) ⟨j, z1, z2⟩
def mPar (is : List Nat) (m : M (List D)) : MS := .of m fun ds ρ => .nx (setE ρ is ds)
/-- what follows the values, from the whole statement -/
theorem par_core {bs : List Bool} {is : List Nat} {m : M (List D)} {D : Ends} {σ : L2.St} {H : Hp} (hk : kOk Γ is = true) (hl : is.length = bs.length) (h : Ts S Γ (setK Γ is bs) (mPar is m) D σ H) :
    Tr S Γ (rPn S bs) m σ H fun vs H1 => vs.length = bs.length ∧ D.nx (setV σ is vs) H1 ∧ ∀ p ob, H1 p = none → D.nx (setV σ is vs) (upd H1 p ob) := by
  obtain ⟨F, ρ, rs0, h⟩ := h
  refine ⟨F, (TsF.of (R := rPn S bs) rs0 h).mono fun vs H1 ⟨ds, F1, ρ1, q, x1, rs, h⟩ => ?_⟩
  have nO : ∀ a ∈ owAd bs vs, ¬ Own Γ σ a := fun a m z => by
    obtain ⟨_, o', z⟩ := rs0.own_some z
    have := PnR.ad q m
    rw [this] at z; cases z
  have q' : PnR S.C.K S.C.ct F1 H1 (fun a => S.C.H0 a = none) bs ds vs := PnR.imp (fun a z => by
    cases e0 : S.C.H0 a with
    | none => rfl
    | some y => exact absurd z (rs0.ext.n a (by rw [e0]; simp))) q
  refine ⟨q.len.2, h _ F1 H1 (Same.refl _) (RS.setAll rs hk hl q' nO), fun p ob hp => ?_⟩
  exact h _ F1 _ (Same.refl _) (RS.setAll (rs.newH hp) hk hl (q'.newH hp) nO)
/-- two names, stored from the right -/
theorem s_par2 {i j : Nat} {x y : Str} {a b : Expr} {m : M (List D)} {px py pt : Pos} {kt k2 pt2} {ba bb : Bool} (hc : X.calm = true) (hN : X.N.Nodup) (ha : EvM X S Γ [ba, bb] [a, b] m) (hi : X.N[i]? = some x) (hj : X.N[j]? = some y) (hij : i ≠ j)
    (hx : X.env.scope.names.lookup x = some .local) (hy : X.env.scope.names.lookup y = some .local) (hk : kOk Γ [i, j] = true := by rfl)
    (hw : swappedStores [.Tuple [.Name x px, .Name y py] kt pt] (.Tuple [a, b] k2 pt2) X.env = pure (some [x, y]) := by rfl)
    (hs : swapsWithSole [.Tuple [.Name x px, .Name y py] kt pt] (.Tuple [a, b] k2 pt2) pos.line X.env = pure false := by rfl) :
    EvS X S Γ (setK Γ [i, j] [ba, bb]) (.Assign [.Tuple [.Name x px, .Name y py] kt pt] (.Tuple [a, b] k2 pt2) pos) (mPar [i, j] m) := ps_imp (ps_par hc hN hi hj hij hx hy ha hw hs) fun D σ H h => by
  refine (par_core hk rfl h).mono fun vs H1 ⟨hl, q, _⟩ => ?_
  match vs, hl with
  | [v, w], _ => exact ⟨v, w, rfl, q⟩
/-- three names, stored from the right -/
theorem ps_par3 {i j k : Nat} {x y z : Str} {a b c : Expr} {ta : TA} {px py pz pt : Pos} {kt k2 pt2} (hc : X.calm = true) (hN : X.N.Nodup) (hi : X.N[i]? = some x) (hj : X.N[j]? = some y) (hk : X.N[k]? = some z) (hij : i ≠ j) (hik : i ≠ k) (hjk : j ≠ k)
    (hx : X.env.scope.names.lookup x = some .local) (hy : X.env.scope.names.lookup y = some .local) (hz : X.env.scope.names.lookup z = some .local) (ha : PA X [a, b, c] ta)
    (hw : swappedStores [.Tuple [.Name x px, .Name y py, .Name z pz] kt pt] (.Tuple [a, b, c] k2 pt2) X.env = pure (some [x, y, z]))
    (hs : swapsWithSole [.Tuple [.Name x px, .Name y py, .Name z pz] kt pt] (.Tuple [a, b, c] k2 pt2) pos.line X.env = pure false) :
    PS X (.Assign [.Tuple [.Name x px, .Name y py, .Name z pz] kt pt] (.Tuple [a, b, c] k2 pt2) pos) (fun D σ H => ta σ H fun vs H1 => ∃ u v w, vs = [u, v, w] ∧ D.nx (((σ.set i (some u)).set j (some v)).set k (some w)) H1) := by
  refine ⟨fun pins s σ H D I h => ?_⟩
  rw [exec_Assign_arm]
  refine wpAny_bind (wpAny_standAt ?_)
  rw [hs]
  refine wpAny_bind (wpAny_pure ?_)
  rw [if_neg (by decide)]
  refine wpAny_bind (Tuple_ (thn (ha.run _ pins s σ H _ I h) fun us s1 ⟨vs, H1, I1, r1, q1⟩ => ?_))
  obtain ⟨u, v, w, e1, q1⟩ := q1
  subst e1
  obtain ⟨u1, u2, u3, rfl, ru, rv, rw'⟩ : ∃ u1 u2 u3, us = [u1, u2, u3] ∧ RelV u u1 ∧ RelV v u2 ∧ RelV w u3 := by
    cases r1 with
    | cons p q =>
      cases q with
      | cons p' q' =>
        cases q' with
        | cons p2 q2 =>
          cases q2
          exact ⟨_, _, _, rfl, p, p', p2⟩
  refine wpAny_newObj_type ?_ (by show 3 ≤ sizeLine; decide)
  have I2 : Inv X pins σ H1 { s1 with heap := s1.heap.push { cls := .type "tuple", data := .seq [u1, u2, u3].toArray } } := I1.kept (t' := s1.toks) fun b o e => Heap.get?_push_of_some _ e
  rw [hw]
  refine wpAny_bind (wpAny_pure ?_)
  show wpAny (model X.prog X.w) X.A (do rule "assign.swapped-stores"; let items ← unpackItems (.ref s1.heap.objs.size) 3 none; assignInOrder [fun v => bindName X.env z v, fun v => bindName X.env y v, fun v => bindName X.env x v] items.reverse; pure Flow.next) _ _ _
  refine wpAny_bind (wpAny_rule (wpAny_bind (unpackItems_tuple (items := #[u1, u2, u3]) (I.ok.hd hc) (IsTup.new s1.heap _) fun h' hx' => ?_)))
  have I3 := I2.kept (h' := h') (t' := s1.toks) fun b o e => hx' b o (Nat.ne_of_lt (Heap.lt_size e)) e
  show wpAny _ _ (assignInOrder [fun v => bindName X.env z v, fun v => bindName X.env y v, fun v => bindName X.env x v] [u3, u2, u1] >>= fun _ => pure Flow.next) _ _ _
  refine wpAny_bind (assignInOrder_cons (wpAny_bindName (store_ok I3 hN hk (.inl hz) rw' (fun s2 I4 => ?_) (.inr hz))))
  refine assignInOrder_cons (wpAny_bindName (store_ok I4 hN hj (.inl hy) rv (fun s3 I5 => ?_) (.inr hy)))
  refine assignInOrder_cons (wpAny_bindName (store_ok I5 hN hi (.inl hx) ru (fun s4 I6 => assignInOrder_nil (wpAny_pure ?_)) (.inr hx)))
  have e : ((σ.set k (some w)).set j (some v)).set i (some u) = ((σ.set i (some u)).set j (some v)).set k (some w) := by
    rw [List.set_comm _ _ (Ne.symm hij), List.set_comm _ _ (Ne.symm hik), List.set_comm _ _ (Ne.symm hjk)]
  rw [e] at I6
  exact ⟨_, H1, I6, q1⟩
theorem s_par3 {i j k : Nat} {x y z : Str} {a b c : Expr} {m : M (List D)} {px py pz pt : Pos} {kt k2 pt2} {ba bb bc : Bool} (hc : X.calm = true) (hN : X.N.Nodup) (ha : EvM X S Γ [ba, bb, bc] [a, b, c] m) (hi : X.N[i]? = some x) (hj : X.N[j]? = some y) (hz : X.N[k]? = some z) (hij : i ≠ j) (hik : i ≠ k) (hjk : j ≠ k)
    (hx : X.env.scope.names.lookup x = some .local) (hy : X.env.scope.names.lookup y = some .local) (hzl : X.env.scope.names.lookup z = some .local) (hk : kOk Γ [i, j, k] = true := by rfl)
    (hw : swappedStores [.Tuple [.Name x px, .Name y py, .Name z pz] kt pt] (.Tuple [a, b, c] k2 pt2) X.env = pure (some [x, y, z]) := by rfl)
    (hs : swapsWithSole [.Tuple [.Name x px, .Name y py, .Name z pz] kt pt] (.Tuple [a, b, c] k2 pt2) pos.line X.env = pure false := by rfl) :
    EvS X S Γ (setK Γ [i, j, k] [ba, bb, bc]) (.Assign [.Tuple [.Name x px, .Name y py, .Name z pz] kt pt] (.Tuple [a, b, c] k2 pt2) pos) (mPar [i, j, k] m) := ps_imp (ps_par3 hc hN hi hj hz hij hik hjk hx hy hzl ha hw hs) fun D σ H h => by
  refine (par_core hk rfl h).mono fun vs H1 ⟨hl, q, _⟩ => ?_
  match vs, hl with
  | [u, v, w], _ => exact ⟨u, v, w, rfl, q⟩
/-- names, from the left -/
def gNs (is : List Nat) : TGs := fun vs σ H Q => vs.length = is.length ∧ Q (setV σ is vs) H
theorem gs_nil : PGs X [] (gNs []) := pgs_imp pgs_nil fun vs σ H Q ⟨hl, q⟩ => by
  have e : vs = [] := List.length_eq_zero_iff.mp hl
  subst e
  exact ⟨rfl, q⟩
theorem gs_cons {i : Nat} {is : List Nat} {x : Str} {es : List Expr} (hN : X.N.Nodup) (hi : X.N[i]? = some x) (hx : Loc X.env.scope x) (hf : X.fn x = true ∨ X.env.scope.names.lookup x = some .local) (h : PGs X es (gNs is)) (hs : (assignEach (.Name x pos :: es) X.env).map (·.2) = assign (.Name x pos) X.env :: (assignEach es X.env).map (·.2) := by rfl) : PGs X (.Name x pos :: es) (gNs (i :: is)) :=
  pgs_imp (pgs_cons (pg_name hN hi hx hf) h hs) fun vs σ H Q ⟨hl, q⟩ => by
    cases vs with
    | nil => simp at hl
    | cons v vs => exact ⟨v, vs, rfl, by simpa using hl, q⟩
theorem s_parN {is : List Nat} {bs : List Bool} {ts es : List Expr} {m : M (List D)} {kt k2 : Nat} {pt pt2 : Pos} {n : Nat} (hc : X.calm = true) (ha : EvM X S Γ bs es m) (hg : PGs X ts (gNs is)) (hK : S.C.K = X.K) (hl : is.length = bs.length := by rfl) (hln : is.length = n := by rfl) (hz : n ≤ sizeLine := by decide) (hk : kOk Γ is = true := by rfl)
    (hn : (assignEach ts X.env).length = n := by rfl) (hst : (assignEach ts X.env).findIdx? (·.1) = none := by rfl)
    (hs : swapsWithSole [.Tuple ts kt pt] (.Tuple es k2 pt2) pos.line X.env = pure false := by rfl) (hw : swappedStores [.Tuple ts kt pt] (.Tuple es k2 pt2) X.env = pure none := by rfl)
    (h1 : (assignEach [.Tuple ts kt pt] X.env).map (·.2) = [assign (.Tuple ts kt pt) X.env] := by rfl) :
    EvS X S Γ (setK Γ is bs) (.Assign [.Tuple ts kt pt] (.Tuple es k2 pt2) pos) (mPar is m) := ps_imp (ps_asg (pe_tup ha) (pg_tup hc hg hn hst) hs hw h1) fun D σ H h => by
  refine (par_core hk hl h).mono fun vs H1 ⟨hlv, _, q⟩ => ⟨by rw [hlv, ← hl, hln]; exact hz, fun p hp => ?_⟩
  exact ⟨p, vs, rfl, SqT.of upd_same, by rw [hlv, ← hl, hln], by rw [hlv, ← hl], q p _ hp⟩
end
end G
/-! G15: more built-ins. -/
namespace G
open PySem PySem.Spec PyProof.Rows L2
section
variable {X : Cx} {S : Sg} {Γ : List Kd} {K : Frag} {ct : Ct} {pos : Pos}
/-! ### list(range(..)) -/
theorem prg_imp {e : Expr} {t t' : L2.St → Hp → (Int → Int → Hp → Prop) → Prop} (h : PRg X e t) (k : ∀ σ H Q, t' σ H Q → t σ H Q) : PRg X e t' := fun pins s σ H Q I q => h pins s σ H Q I (k _ _ _ q)
instance (a b : Int) : Decidable (RgOk a b) := by unfold RgOk; exact inferInstance
def dLr : D → Option D
  | .int n => if RgOk 0 n then some (.lst (rngD 0 n)) else none
  | _ => none
theorem rgV_rngD {F : Hp} {a b : Int} : RpL K ct F (rngD a b) (rgV a b) := by
  unfold rngD rgV
  refine RpL.of_all (by simp) fun i d v e1 e2 => ?_
  rw [List.getElem?_map] at e1 e2
  obtain ⟨c, z1, rfl⟩ := Option.map_eq_some_iff.mp e1
  obtain ⟨c', z2, rfl⟩ := Option.map_eq_some_iff.mp e2
  rw [z1] at z2
  cases z2
  exact rp_int.mpr rfl
theorem o_lr {a : Expr} {m : M D} {p p2 pos2 : Pos} (hc : X.calm = true) (h : EvE X S Γ a m) (hm : X.mg "list" = none) (hm2 : X.mg "range" = none) (hg : Gl X "list" := by rfl) (hg2 : Gl X "range" := by rfl) (na : starEach [a] X.env = (false, eval a X.env) :: starEach [] X.env := by rfl)
    (na2 : starEach [Expr.Call (.Name "range" p2) [a] [] pos2] X.env = (false, eval (.Call (.Name "range" p2) [a] [] pos2) X.env) :: starEach [] X.env := by rfl) :
    EvO X S Γ (.Call (.Name "list" p) [.Call (.Name "range" p2) [a] [] pos2] [] pos) (m1 dLr m) := pe_imp (pe_listRg hc hg hm (prg_1 hg2 hm2 h na) na2) fun σ H Q ⟨F, q⟩ => by
  refine ⟨F, (TrF.bind (R1 := rD S) rO_late q).mono fun v H1 ⟨d, F1, r, x1, q⟩ => ?_⟩
  obtain ⟨z, e1, hs, k⟩ := q.opt2
  cases d <;> simp only [dLr] at e1 <;> try (cases e1; done)
  split at e1
  · rename_i n hz
    cases e1
    refine ⟨n, rp_int.mp r, hz, fun l hl => k _ l _ hl ⟨l, _, rfl, hl, hs.free hl, upd_same, .lst rgV_rngD⟩⟩
  · cases e1
/-- a fresh list of a list's, a tuple's items, as one's own -/
theorem o_list {a : Expr} {es : List Expr} {m : M (List D)} {p : Pos} (ha : EvAR X S Γ (a :: es) m) (hK : S.C.K = X.K) (hm : X.mg "list" = none) (hg : Gl X "list" := by rfl) (hv : bootBuiltins "list" = some (.type "list") := by decide +kernel)
    (he : starEach (a :: es) X.env = (false, eval a X.env) :: starEach es X.env := by rfl) (hpl : (backTo pos (starEach es X.env)).any (·.1) = false := by rfl) :
    EvO X S Γ (.Call (.Name "list" p) (a :: es) [] pos) (mA dListOf m) := pe_imp (pe_callTy call_list_of hg hm hv ha (by decide) (by decide) he hpl) fun σ H Q ⟨F, q⟩ => by
  refine ⟨F, (TrF.bind (R1 := rLR S) rO_late q).mono fun vs H1 ⟨ds, F1, r, x1, q⟩ => ?_⟩
  obtain ⟨z, e1, hs, k⟩ := q.opt2
  rw [← hK]
  replace r : RvL S.C.K S.C.ct F1 H1 ds vs := r
  unfold dListOf at e1
  split at e1
  · obtain ⟨v, ev, r9⟩ := rvl_one r
    subst ev
    rw [rv_lst] at r9
    obtain ⟨b, ws, rfl, h1, h2⟩ := r9
    cases e1
    exact ⟨_, ws, rfl, .inl (SqL.of h1), fun l hl => k _ l _ hl ⟨l, _, rfl, hl, hs.free hl, upd_same, .lst h2⟩⟩
  · obtain ⟨v, ev, r9⟩ := rvl_one r
    subst ev
    rw [rv_tup] at r9
    obtain ⟨b, ws, rfl, h1, h2⟩ := r9
    cases e1
    exact ⟨_, ws, rfl, .inr (same_t hs h1), fun l hl => k _ l _ hl ⟨l, _, rfl, hl, hs.free hl, upd_same, .lst h2⟩⟩
  · obtain ⟨v, ev, r9⟩ := rvl_one r
    subst ev
    rw [rv_scr] at r9
    obtain ⟨b, rfl, h1⟩ := r9
    cases e1
    exact ⟨_, _, rfl, .inl (same_l hs h1), fun l hl => k _ l _ hl ⟨l, _, rfl, hl, hs.free hl, upd_same, .lst rpl_ints⟩⟩
  · cases e1
/-! ### divmod -/
instance (i j : Int) : Decidable (CDiv i j) := by unfold CDiv; exact inferInstance
def dDm : List D → Option D
  | [.int i, .int j] => if CDiv i j then some (.tup [.int (i / j), .int (i % j)]) else none
  | _ => none
theorem b_divmod : Bi X K ct (.builtin "divmod") dDm := ⟨_, call_divmod, by
  intro F H ds d vs Q hs r e q
  unfold dDm at e
  split at e
  · replace r := rvl_two r
    obtain ⟨v, w, rfl, r, r'⟩ := r
    rw [rv_int] at r r'
    split at e
    · rename_i hc
      cases e
      exact ⟨_, _, by rw [r, r'], hc, fun l hl => q _ _ _ (.new (o := .tup [.int _, .int _]) hl) (rp_tup.mpr ⟨l, _, rfl, SqT.of upd_same, RpL.two (rp_int.mpr rfl) (rp_int.mpr rfl)⟩)⟩
    · cases e
  · cases e⟩
/-! ### str(n) -/
def dStr : List D → Option D
  | [.int i] => if i.natAbs.log2 < 1920 then some (.str (toString i)) else none
  | _ => none
theorem b_str : Bi X K ct (.type "str") dStr := ⟨_, call_str_int, by
  intro F H ds d vs Q hs r e q
  unfold dStr at e
  split at e
  · replace r := rvl_one r
    obtain ⟨v, rfl, r⟩ := r
    rw [rv_int] at r
    split at e
    · rename_i hc
      cases e
      exact ⟨_, by rw [r], hc, q _ _ _ .same (rp_str.mpr rfl)⟩
    · cases e
  · cases e⟩
/-! ### f-strings -/
def dFm : D → Option D
  | .str y => if y.length ≤ sizeLine then some (.str y) else none
  | .int i => if i.natAbs.log2 < 1920 then some (.str (toString i)) else none
  | _ => none
theorem e_fm {e : Expr} {m : M D} (h : EvE X S Γ e m) : EvE X S Γ (.FormattedValue e (-1) none pos) (m1 dFm m) := pe_imp (pe_fmt h) fun σ H Q q => by
  refine (Tr.bind (R1 := rD S) rD_late q).mono fun v H1 ⟨d, F1, r, q⟩ => ?_
  obtain ⟨z, e1, hs, k⟩ := q.opt0
  cases d <;> simp only [dFm] at e1 <;> try (cases e1; done)
  · split at e1
    · rename_i hz
      cases e1
      exact .inr ⟨_, rp_int.mp r, hz, k _ (rp_str.mpr rfl)⟩
    · cases e1
  · split at e1
    · rename_i hz
      cases e1
      exact .inl ⟨_, rp_str.mp r, hz, k _ (rp_str.mpr rfl)⟩
    · cases e1
/-- the parts, one behind the other -/
def mJs : List (M D) → Str → M Str
  | [], acc => M.ret acc
  | m :: ms, acc => m.bind fun d => match d with
    | .str y => if (acc ++ y).length ≤ sizeLine then mJs ms (acc ++ y) else M.opt none
    | _ => M.opt none
def mJn (ms : List (M D)) : M D := (mJs ms Str.empty).bind fun y => M.ret (.str y)
inductive EvJ (X : Cx) (S : Sg) (Γ : List Kd) : List Expr → List (M D) → Prop where
  | nil : EvJ X S Γ [] []
  | cons {e : Expr} {m : M D} {es : List Expr} {ms : List (M D)} (h : EvE X S Γ e m) (r : EvJ X S Γ es ms) : EvJ X S Γ (e :: es) (m :: ms)
theorem EvJ.pj {es : List Expr} {ms : List (M D)} (h : EvJ X S Γ es ms) : PJ X es (ms.map fun m => Tr S Γ (rD S) m) := by
  induction h with
  | nil => exact .nil
  | cons h _ ih => exact .cons h ih
theorem tr_js : ∀ {ms : List (M D)} {acc : Str} {F : Hp} {σ : L2.St} {H : Hp} {Q : VK}, TrF S Γ (rD S) ((mJs ms acc).bind fun y => M.ret (D.str y)) F σ H Q → tJs (ms.map fun m => Tr S Γ (rD S) m) acc σ H fun out H1 => Q (.str out) H1
  | [], acc, F, σ, H, Q, h => h.ret0 (rp_str.mpr rfl)
  | m :: ms, acc, F, σ, H, Q, h => by
    have h' : TrF S Γ (rD S) (m.bind fun d => (match d with
      | .str y => if (acc ++ y).length ≤ sizeLine then mJs ms (acc ++ y) else M.opt none
      | _ => M.opt none).bind fun (y : Str) => M.ret (D.str y)) F σ H Q := by
      obtain ⟨ρ, rs, h⟩ := h
      refine ⟨ρ, rs, ?_⟩
      have e : ((mJs (m :: ms) acc).bind fun y => M.ret (D.str y)) ρ = (m.bind fun d => (match d with
        | .str y => if (acc ++ y).length ≤ sizeLine then mJs ms (acc ++ y) else M.opt none
        | _ => M.opt none).bind fun (y : Str) => M.ret (D.str y)) ρ := by
        simp only [mJs, M.bind]
        cases m ρ <;> rfl
      rw [← e]
      exact h
    refine ⟨F, (TrF.bind (R1 := rD S) rD_late h').mono fun v H1 ⟨d, F1, r, x1, q⟩ => ?_⟩
    cases d with
    | str y =>
      by_cases hz : (acc ++ y).length ≤ sizeLine
      · simp only [if_pos hz] at q
        exact ⟨y, rp_str.mp r, hz, tr_js q⟩
      · simp only [if_neg hz] at q
        exact (TrF.nope q).elim
    | _ => exact (TrF.nope q).elim
theorem e_js {v1 v2 : Expr} {rest : List Expr} {ms : List (M D)} (h : EvJ X S Γ (v1 :: v2 :: rest) ms) : EvE X S Γ (.JoinedStr (v1 :: v2 :: rest) pos) (mJn ms) := pe_imp (pe_joined h.pj) fun σ H Q ⟨F, q⟩ => tr_js q
theorem e_js1 {e : Expr} {m : M D} (h : EvE X S Γ e m) : EvE X S Γ (.JoinedStr [e] pos) m := pe_joined1 h
/-! ### sep.join(..) -/
def dJo : D → D → Option D
  | .str a, .lst xs => (dStrs xs).bind fun ys => if (ys.map (·.length)).sum + ys.length * a.length ≤ 16777216 then some (.str (Txt.join a ys)) else none
  | .str a, .tup xs => (dStrs xs).bind fun ys => if (ys.map (·.length)).sum + ys.length * a.length ≤ 16777216 then some (.str (Txt.join a ys)) else none
  | _, _ => none
def mJo (a b : M D) : M D := a.bind fun x => match x with
  | .str _ => b.bind fun y => M.opt (dJo x y)
  | _ => M.opt none
theorem e_join {o e : Expr} {mo m : M D} {apos : Pos} (ho : EvE X S Γ o mo) (he : EvR X S Γ e m) (hK : S.C.K = X.K) (hs : starEach [e] X.env = [(false, eval e X.env)] := by rfl) (hbase : attributeBase o "join" X.env (eval o X.env) = eval o X.env := by rfl) (hline : (apos.endLine == pos.line) = true := by rfl) :
    EvE X S Γ (.Call (.Attribute o "join" apos) [e] [] pos) (mJo mo m) := pe_imp (pe_join ho he hs hbase hline) fun σ H Q q => by
  refine (Tr.bind (R1 := rD S) rD_late q).mono fun v H1 ⟨d, F1, r, q⟩ => ?_
  cases d with
  | str a =>
    refine ⟨⟨a, rp_str.mp r⟩, F1, (TrF.bind (R1 := rR S) rD_late q).mono fun w H2 ⟨d2, F2, r2, x2, q⟩ => ?_⟩
    obtain ⟨z, e1, hs, k⟩ := q.opt0
    cases d2 <;> simp only [dJo] at e1 <;> try (cases e1; done)
    · obtain ⟨ys, e2, e3⟩ := Option.bind_eq_some_iff.mp e1
      split at e3
      · rename_i hz
        cases e3
        obtain ⟨b, vs, rfl, h1, h2⟩ := rv_tup.mp r2
        rw [dStrs_eq e2] at h2
        rw [rpl_strs_inv h2] at h1
        exact ⟨a, b, ys, rp_str.mp r, rfl, .inr (by rw [← hK]; exact same_t hs h1), hz, k _ (rp_str.mpr rfl)⟩
      · cases e3
    · obtain ⟨ys, e2, e3⟩ := Option.bind_eq_some_iff.mp e1
      split at e3
      · rename_i hz
        cases e3
        obtain ⟨b, vs, rfl, h1, h2⟩ := rv_lst.mp r2
        rw [dStrs_eq e2] at h2
        rw [rpl_strs_inv h2] at h1
        exact ⟨a, b, ys, rp_str.mp r, rfl, .inl (SqL.of h1), hz, k _ (rp_str.mpr rfl)⟩
      · cases e3
  | _ => exact q.nope.elim
end
/-! ### isinstance -/
inductive Tk where
  | int | bool | str | tuple | list | dict
  deriving DecidableEq
def Tk.s : Tk → String
  | .int => "int" | .bool => "bool" | .str => "str" | .tuple => "tuple" | .list => "list" | .dict => "dict"
def tyD : D → Option String
  | .non => some "NoneType" | .bl _ => some "bool" | .int _ => some "int" | .str _ => some "str" | .tup _ => some "tuple" | .lst _ => some "list" | .scr _ => some "list" | .dct _ _ => some "dict" | .obj _ _ => none
def isTk (T : Tk) : D → Option Bool
  | .non => some false
  | .bl _ => some (match T with | .int => true | .bool => true | _ => false)
  | .int _ => some (match T with | .int => true | _ => false)
  | .str _ => some (match T with | .str => true | _ => false)
  | .tup _ => some (match T with | .tuple => true | _ => false)
  | .lst _ => some (match T with | .list => true | _ => false)
  | .scr _ => some (match T with | .list => true | _ => false)
  | .dct _ _ => some (match T with | .dict => true | _ => false)
  | .obj _ _ => none
theorem isTk_kit {T : Tk} {d : D} {b : Bool} (e : isTk T d = some b) : ∃ t, tyD d = some t ∧ kitB t T.s = some b := by
  cases d <;> simp only [isTk] at e <;> (try (cases e; done)) <;> cases e <;> refine ⟨_, rfl, ?_⟩ <;> cases T <;> decide +kernel
section
variable {X : Cx} {S : Sg} {Γ : List Kd} {K : Frag} {ct : Ct} {pos : Pos}
theorem tyx_of {F H : Hp} {d : D} {v : V} {t : String} (hs : Same F H) (r : Rv K ct F H d v) (e : tyD d = some t) : TyX K H v (.type t) := by
  cases d <;> simp only [tyD] at e <;> try (cases e; done)
  · cases e; rw [rv_non] at r; subst r; exact .base .non
  · cases e; rw [rv_bl] at r; subst r; exact .base (.bl _)
  · cases e; rw [rv_int] at r; subst r; exact .base (.int _)
  · cases e; rw [rv_str] at r; subst r; exact .base (.str _)
  · cases e; rw [rv_tup] at r
    obtain ⟨a, vs, rfl, h1, _⟩ := r
    rcases same_t hs h1 with (h | ⟨o, h⟩) | ⟨o, its, n, hk, hc, _⟩
    · exact .base (.tup h)
    · exact .fTuple h
    · exact .kTuple hk hc
  · cases e; rw [rv_lst] at r
    obtain ⟨a, vs, rfl, h1, _⟩ := r
    exact .base (.lst h1)
  · cases e; rw [rv_scr] at r
    obtain ⟨a, rfl, h1⟩ := r
    rcases same_l hs h1 with (h | ⟨o, h⟩) | ⟨o, its, n, hk, hc, _⟩
    · exact .base (.lst h)
    · exact .base (.frz h)
    · exact .kList hk hc
  · cases e; rw [rv_dct] at r
    obtain ⟨a, o, rfl, h1, h2⟩ := r
    generalize hd : D.dct _ _ = dd at h2
    cases h2 with
    | lst _ => cases hd
    | dK _ _ => exact .base (.dK h1)
    | dT _ _ => exact .base (.dT h1)
    | ins _ _ => cases hd
theorem pe_tyn {x : Str} {n : String} {p : Pos} (hm : X.mg x = none) (hv : bootBuiltins x = some (.type n)) (hg : Gl X x) (hn : x ≠ "__name__") (hdb : (x == ("__debug__" : Str)) = false) : PE X (.Name x p) (tC (.ty n)) := ⟨fun pins s σ H Q I q => ld_blt I hg hm hv ⟨.ty n, H, I, rfl, q⟩ hn hdb⟩
theorem pe_cln {x : Str} {C : Addr} {p : Pos} (hm : X.mg x = some (.ref C)) (hg : Gl X x) (hdb : (x == ("__debug__" : Str)) = false) : PE X (.Name x p) (tC (.ref C)) := ⟨fun pins s σ H Q I q => ld_glob I hg hm ⟨.ref C, H, I, rfl, q⟩ hdb⟩
def dIs (T : Tk) (d : D) : Option D := (isTk T d).map .bl
theorem e_is {e : Expr} {m : M D} {x : Str} {T : Tk} {p p2 : Pos} (h : EvR X S Γ e m) (hK : S.C.K = X.K) (hm : X.mg "isinstance" = none) (hmx : X.mg x = none) (hv : bootBuiltins x = some (.type T.s) := by decide +kernel) (hvi : bootBuiltins "isinstance" = some (.builtin "isinstance") := by decide +kernel) (hgi : Gl X "isinstance" := by rfl) (hg : Gl X x := by rfl) (hn : x ≠ "__name__" := by decide) (hdb : (x == ("__debug__" : Str)) = false := by decide)
    (hs : starEach [e, .Name x p2] X.env = (false, eval e X.env) :: starEach [.Name x p2] X.env := by rfl) (hs2 : starEach [.Name x p2] X.env = (false, eval (.Name x p2) X.env) :: starEach [] X.env := by rfl) (hpl : (backTo pos (starEach [.Name x p2] X.env)).any (·.1) = false := by rfl) :
    EvE X S Γ (.Call (.Name "isinstance" p) [e, .Name x p2] [] pos) (m1 (dIs T) m) := pe_imp (pe_callB call_isi hgi hm hvi (pa_cons h (pa_cons (pe_tyn hmx hv hg hn hdb) pa_nil hs2) hs) (by decide) (by decide) hs hpl) fun σ H Q q => by
  refine (Tr.bind (R1 := rR S) rD_late q).mono fun v H1 ⟨d, F1, r, q⟩ => ?_
  obtain ⟨z, e1, hs, k⟩ := q.opt0
  obtain ⟨b, e2, rfl⟩ := Option.map_eq_some_iff.mp e1
  obtain ⟨t, e3, e4⟩ := isTk_kit e2
  exact ⟨v, .ty T.s, .type t, .type T.s, b, rfl, .ty _, by rw [← hK]; exact tyx_of hs r e3, kit_ty e4, k _ (rp_bl.mpr rfl)⟩
/-- what is known of an own class for isinstance -/
structure ClsF (K : Frag) (C : Addr) : Prop where
  cl : Cls K C
  ha : PySem.W.findIn K (.ref C) "__class__" = some (some (.builtin "object.__class__"))
  hn : PySem.W.specialIn K (.builtin "object.__class__") "__get__" = some (some (.builtin "getset_descriptor.__get__"))
  htk : PySem.W.takesIn K (.builtin "object.__class__") = some true
  hm : PySem.W.mroIn K C (.type "object") = some true
/-- no built-in value is of the class at C -/
def NotB (K : Frag) (C : Addr) : Prop := ∀ t ∈ ["NoneType", "bool", "int", "str", "tuple", "list", "dict"], PySem.W.kitOne K (.type t) (.ref C) = some false
theorem tyD_mem {d : D} {t : String} (e : tyD d = some t) : t ∈ ["NoneType", "bool", "int", "str", "tuple", "list", "dict"] := by
  cases d <;> simp only [tyD] at e <;> (try (cases e; done)) <;> cases e <;> decide
def dIo (c : Nat) (d : D) : Option D := match d with
  | .obj c' _ => if c' = c then some (.bl true) else none
  | _ => some (.bl false)
theorem e_io {e : Expr} {m : M D} {x : Str} {c : Nat} {p p2 : Pos} (h : EvR X S Γ e m) (hK : S.C.K = X.K) (cf : ClsF X.K (S.C.ct c).1) (nb : NotB X.K (S.C.ct c).1) (hm : X.mg "isinstance" = none) (hmx : X.mg x = some (.ref (S.C.ct c).1)) (hvi : bootBuiltins "isinstance" = some (.builtin "isinstance") := by decide +kernel) (hgi : Gl X "isinstance" := by rfl) (hg : Gl X x := by rfl) (hdb : (x == ("__debug__" : Str)) = false := by decide)
    (hs : starEach [e, .Name x p2] X.env = (false, eval e X.env) :: starEach [.Name x p2] X.env := by rfl) (hs2 : starEach [.Name x p2] X.env = (false, eval (.Name x p2) X.env) :: starEach [] X.env := by rfl) (hpl : (backTo pos (starEach [.Name x p2] X.env)).any (·.1) = false := by rfl) :
    EvE X S Γ (.Call (.Name "isinstance" p) [e, .Name x p2] [] pos) (m1 (dIo c) m) := pe_imp (pe_callB call_isi hgi hm hvi (pa_cons h (pa_cons (pe_cln hmx hg hdb) pa_nil hs2) hs) (by decide) (by decide) hs hpl) fun σ H Q q => by
  refine (Tr.bind (R1 := rR S) rD_late q).mono fun v H1 ⟨d, F1, r, q⟩ => ?_
  obtain ⟨z, e1, hs, k⟩ := q.opt0
  have r : Rv S.C.K S.C.ct F1 H1 d v := r
  by_cases ho : ∃ c' fs, d = .obj c' fs
  · obtain ⟨c', fs, rfl⟩ := ho
    simp only [dIo] at e1
    split at e1
    · rename_i ec
      subst ec
      cases e1
      obtain ⟨a, o, rfl, h1, h2⟩ := rv_obj.mp r
      generalize hd : D.obj c' fs = dd at h2
      cases h2 with
      | lst _ => cases hd
      | dK _ _ => cases hd
      | dT _ _ => cases hd
      | ins _ _ =>
        cases hd
        exact ⟨_, _, _, _, true, rfl, .own _, .base (.ins h1 cf.cl cf.ha cf.hn cf.htk cf.hm), by unfold PySem.W.kitOne; simp, k _ (rp_bl.mpr rfl)⟩
    · cases e1
  · obtain ⟨t, et⟩ : ∃ t, tyD d = some t := by cases d <;> first | exact ⟨_, rfl⟩ | exact absurd ⟨_, _, rfl⟩ ho
    have ez : z = .bl false := by
      cases d <;> simp only [dIo] at e1 <;> first | (cases e1; rfl) | exact absurd ⟨_, _, rfl⟩ ho
    subst ez
    exact ⟨v, _, .type t, _, false, rfl, .own _, by rw [← hK]; exact tyx_of hs r et, nb t (tyD_mem et), k _ (rp_bl.mpr rfl)⟩
/-! ### attributes -/
def dAt (i : Nat) (c : Nat) : D → Option D
  | .obj c' fs => if c' = c then fs[i]? else none
  | _ => none
theorem zip_lookup {ns : List Str} {vs : List V} {i : Nat} {f : Str} {v : V} (hn : ns[i]? = some f) (nd : ns.Nodup) (hv : vs[i]? = some v) : (ns.zip vs).lookup f = some v := by
  induction ns generalizing vs i with
  | nil => simp at hn
  | cons n ns ih =>
    cases vs with
    | nil => simp at hv
    | cons w vs =>
      cases i with
      | zero => simp at hn hv; subst hn hv; simp [List.zip, List.lookup_cons]
      | succ i =>
        have nd' := List.nodup_cons.mp nd
        have ne : f ≠ n := fun z => nd'.1 (by rw [← z]; exact List.mem_of_getElem? (by simpa using hn))
        simp only [List.zip_cons_cons, List.lookup_cons]
        rw [beq_eq_false_iff_ne.mpr ne]
        exact ih (by simpa using hn) nd'.2 (by simpa using hv)
theorem e_at {e : Expr} {m : M D} {f : Str} {i c : Nat} (h : EvR X S Γ e m) (hK : S.C.K = X.K) (cl : Cls X.K (S.C.ct c).1) (na : NoAttr X.K (S.C.ct c).1 f) (hi : (S.C.ct c).2[i]? = some f) (nd : (S.C.ct c).2.Nodup) (hb : attributeBase e f X.env (eval e X.env) = eval e X.env := by rfl) :
    EvE X S Γ (.Attribute e f pos) (m1 (dAt i c) m) := pe_imp (pe_fld h hb) fun σ H Q q => by
  refine (Tr.bind (R1 := rR S) rD_late q).mono fun v H1 ⟨d, F1, r, q⟩ => ?_
  obtain ⟨z, e1, hs, k⟩ := q.opt0
  cases d <;> simp only [dAt] at e1 <;> try (cases e1; done)
  split at e1
  · rename_i c' fs ec
    subst ec
    obtain ⟨a, o, rfl, h1, h2⟩ := rv_obj.mp r
    generalize hd : D.obj c' fs = dd at h2
    cases h2 with
    | lst _ => cases hd
    | dK _ _ => cases hd
    | dT _ _ => cases hd
    | ins q1 q2 =>
      cases hd
      obtain ⟨u, z1, z2⟩ := q1.get e1
      exact ⟨a, _, _, _, u, rfl, h1, cl, na, zip_lookup hi nd z1, k _ z2⟩
  · cases e1
end
end G
/-! G16: sorted, repr. -/
namespace G
open PySem PySem.Spec PyProof.Rows L2
section
variable {X : Cx} {S : Sg} {Γ : List Kd} {K : Frag} {ct : Ct} {pos : Pos}
/-! ### sorted -/
def tup1 : PyData → Bool
  | .tuple (_ :: _) => true
  | _ => false
def notNT : PyData → Bool
  | .none => false
  | .tuple _ => false
  | _ => true
def sortOk (ps : List PyData) : Bool := (ps.all fun p => ps.all fun q => PySem.W.alike p q) && (ps.all tup1 || ps.all notNT) && ps.all (fun p => decide (p.depth ≤ 60))
def srtD (xs : List D) (ps : List PyData) : List D := ((xs.zip ps).mergeSort (PySem.W.dataLe false Prod.snd)).map Prod.fst
def rSrt (K : Frag) (ct : Ct) : List V → Hp → VK → Prop := fun vs H Q => ∃ (F : Hp) (a : Addr) (xs : List D) (ps : List PyData) (ws : List V), vs = [.ref a] ∧ Same F H ∧ SqL K H a ws ∧ RpL K ct F xs ws ∧ toPyL xs = some ps ∧ sortOk ps = true ∧
  ∀ p outV, H p = none → RpL K ct F (srtD xs ps) outV → Q (.ref p) (upd H p (.lst outV))
theorem toPyL_len : ∀ {xs : List D} {ps : List PyData}, toPyL xs = some ps → ps.length = xs.length
  | [], ps, e => by simp only [toPyL] at e; cases e; rfl
  | d :: ds, ps, e => by
    simp only [toPyL] at e
    split at e
    · rename_i p ps' e1 e2
      cases e
      simp [toPyL_len e2]
    · cases e
theorem each_of {R : Value → D × PyData → Prop} (h : ∀ v x d p, RelV x v → Rp K ct F d x → toPy d = some p → R v (d, p)) : ∀ {xs : List D} {ps : List PyData} {ws : List V} {us : List Value}, RpL K ct F xs ws → toPyL xs = some ps → Vals ws us → PySem.W.EachIs R us (xs.zip ps)
  | [], ps, ws, us, r, e, rv => by
    rw [rpl_nil] at r
    subst r
    cases rv
    simp only [toPyL] at e
    cases e
    exact .nil
  | d :: ds, ps, ws, us, r, e, rv => by
    obtain ⟨v, w, rfl, r1, r2⟩ := rpl_cons.mp r
    cases rv with
    | cons q1 q2 =>
      simp only [toPyL] at e
      split at e
      · rename_i p ps' e1 e2
        cases e
        exact .cons (h _ _ _ _ q1 r1 e1) (each_of h r2 e2 q2)
      · cases e
theorem each_back {F : Hp} : ∀ {us : List Value} {bs : List (D × PyData)}, PySem.W.EachIs (fun v b => ∃ x, RelV x v ∧ Rp K ct F b.1 x) us bs → ∃ ws, Vals ws us ∧ RpL K ct F (bs.map Prod.fst) ws
  | [], [], _ => ⟨[], .nil, rpl_nil.mpr rfl⟩
  | _, _, .cons ⟨x, h1, h2⟩ t => by
    obtain ⟨ws, q1, q2⟩ := each_back t
    exact ⟨x :: ws, .cons h1 q1, rpl_cons.mpr ⟨x, ws, rfl, h2, q2⟩⟩
theorem zip_snd {xs : List D} {ps : List PyData} (h : ps.length = xs.length) : (xs.zip ps).map Prod.snd = ps := by
  induction xs generalizing ps with
  | nil => cases ps with
    | nil => rfl
    | cons _ _ => simp at h
  | cons x xs ih =>
    cases ps with
    | nil => simp at h
    | cons p ps => simp [ih (by simpa using h)]
theorem cr_srt (hu : X.A.units + 64 < cLine) : CallR X (.builtin "sorted") (rSrt X.K ct) := by
  intro pins s σ H vs us Q I r h
  obtain ⟨F, a, xs, ps, ws, rfl, hs, hq, hx, e, ok, q⟩ := h
  obtain ⟨its, rv, hl, hz⟩ := I.list hq
  rw [Vals.ref1 r]
  unfold sortOk at ok
  simp only [Bool.and_eq_true, Bool.or_eq_true, List.all_eq_true, decide_eq_true_eq] at ok
  obtain ⟨⟨ok1, ok2⟩, ok3⟩ := ok
  have hp := toPyL_len e
  have hsn := zip_snd hp
  have mem : ∀ b, b ∈ xs.zip ps → b.2 ∈ ps := fun b hb => by rw [← hsn]; exact List.mem_map.mpr ⟨b, hb, rfl⟩
  refine PySem.W.sorted_data (bs := xs.zip ps) (enc := Prod.snd) (R := fun v b => ∃ x, RelV x v ∧ Rp X.K ct F b.1 x) hl.isList (each_of (fun v x d p r1 r2 _ => ⟨x, r1, r2⟩) hx e rv)
    (each_of (fun v x d p r1 r2 e1 => Dp.reads I p x v (rp_dp hs r2 e1) r1) hx e rv) (by rw [hsn]; exact fun p hp q hq => ok1 p hp q hq) (by
      rw [hsn]
      rcases ok2 with k | k
      · exact .inl fun d hd => by
          have := k d hd
          cases d <;> simp [tup1] at this
          rename_i zs
          cases zs with
          | nil => simp [tup1] at this
          | cons z zs => exact ⟨z, zs, rfl⟩
      · exact .inr fun d hd => by
          have := k d hd
          refine ⟨fun z => by subst z; simp [notNT] at this, fun zs z => by subst z; simp [notNT] at this⟩) (by rw [List.length_zip, hp, Nat.min_self, hx.length]; exact hz)
    (fun b hb => by have := ok3 _ (mem b hb); omega) fun out ho eo => ?_
  obtain ⟨outV, v1, v2⟩ := each_back eo
  obtain ⟨ep, he'⟩ := PyProof.Rows.sortedAll_at s.heap its (List.toArray out)
  have hlen : outV.length ≤ sizeLine := by
    rw [v1.length, ho, List.length_zip, hp, Nat.min_self, hx.length]; exact hz
  exact ⟨.ref _, upd H (s.heap.objs.size + 1) (.lst outV), I.laid (t' := s.toks) (fun _ _ => PyProof.Rows.sortedAll_old) (Nat.le_succ _) ⟨hlen, out, ep, v1, he'⟩, rfl, q _ _ (I.hok.fresh (Nat.le_succ _)) v2⟩
def dSorted : List D → Option D
  | [.lst xs] => (toPyL xs).bind fun ps => if sortOk ps = true then some (.lst (srtD xs ps)) else none
  | _ => none
theorem b_sorted (hu : X.A.units + 64 < cLine) (hK : K = X.K) : Bi X K ct (.builtin "sorted") dSorted := ⟨_, cr_srt (ct := ct) hu, by
  subst hK
  intro F H ds d vs Q hs r e q
  unfold dSorted at e
  split at e
  · obtain ⟨ps, e1, e2⟩ := Option.bind_eq_some_iff.mp e
    split at e2
    · rename_i ok
      cases e2
      replace r := rvl_one r
      obtain ⟨v, rfl, r⟩ := r
      rw [rv_lst] at r
      obtain ⟨a, ws, rfl, h1, h2⟩ := r
      exact ⟨F, a, _, ps, ws, rfl, hs, SqL.of h1, h2, e1, ok, fun p outV hp ho => q _ _ _ (.new (o := .lst outV) hp) (rp_lst.mpr ⟨p, _, rfl, upd_same, ho.mono (same_updF (hs.free hp))⟩)⟩
    · cases e2
  · cases e⟩
/-! ### repr -/
mutual
def toPyR : D → Option PyData
  | .non => some .none
  | .bl b => some (.bool b)
  | .int i => some (.int i)
  | .str x => some (.str x)
  | .tup xs => (toPyRL xs).map .tuple
  | .lst xs => (toPyRL xs).map .list
  | .scr ns => some (.list (ns.map .int))
  | .dct [] [] => some (.dict [])
  | .dct _ _ => none
  | .obj _ _ => none
def toPyRL : List D → Option (List PyData)
  | [] => some []
  | d :: ds => match toPyR d, toPyRL ds with
    | some p, some ps => some (p :: ps)
    | _, _ => none
end
mutual
/-- no list within -/
def noL : D → Bool
  | .lst _ => false
  | .scr _ => false
  | .tup xs => noLL xs
  | _ => true
def noLL : List D → Bool
  | [] => true
  | d :: ds => noL d && noLL ds
end
theorem paired_nil {α β : Type} {R : α → β → Prop} {l : List β} (h : Paired R [] l) : l = [] := by cases h; rfl
theorem readsAll_ints {h : Heap} : ∀ {ns : List Int} {us : List Value}, Vals (ns.map V.int) us → ReadsAll h us (ns.map .int) []
  | [], _, .nil => .nil
  | n :: ns, _, .cons r t => by
    obtain ⟨k, rfl⟩ := r
    exact ReadsAll.cons (as := []) (bs := []) (Reads.int n k) (readsAll_ints t)
variable {pins : List (Addr × Obj)} {σ : L2.St} {H F : Hp} {s : Shared}
theorem dct_reads (I : Inv X pins σ H s) {a : Addr} (h : H a = some (.dK []) ∨ H a = some (.dT [])) : Reads s.heap (.ref a) (.dict []) [a] ∧ a ≠ sysModules := by
  rcases h with h | h
  · obtain ⟨_, hne, vs, kv, hd⟩ := I.hok a _ h
    have : vs = [] := paired_nil kv
    subst this
    obtain ⟨o, es, ep, h1, h2, h3, h4, h5, _⟩ := id hd
    have hes : es.toList = [] := by
      cases e : es.toList with
      | nil => rfl
      | cons x r => rw [e] at h5; cases h5
    exact ⟨Reads.dict (as := []) (bs := []) h1 h2.1 h3 (by rw [hes]; exact ReadsAll.nil) (by rw [hes]; exact ReadsAll.nil), fun z => by subst z; simp at hne⟩
  · obtain ⟨_, hne, xs, px, o, es, ep, h1, h2, h3, h4, _⟩ := I.hok a _ h
    have : xs = [] := paired_nil px
    subst this
    have hes : es.toList = [] := by simpa using h4
    exact ⟨Reads.dict (as := []) (bs := []) h1 h2.1 h3 (by rw [hes]; exact ReadsAll.nil) (by rw [hes]; exact ReadsAll.nil), fun z => by subst z; simp at hne⟩
mutual
theorem rp_reads (I : Inv X pins σ H s) (hs : Same F H) : ∀ {d : D} {v : V} {u : Value} {p : PyData}, Rp X.K ct F d v → toPyR d = some p → RelV v u → ∃ as, Reads s.heap u p as ∧ (noL d = true → sysModules ∉ as)
  | .non, v, u, p, h, e, r => by simp only [toPyR] at e; cases e; rw [rp_non] at h; subst h; cases r; exact ⟨_, Reads.none, fun _ => by simp⟩
  | .bl b, v, u, p, h, e, r => by simp only [toPyR] at e; cases e; rw [rp_bl] at h; subst h; cases r; exact ⟨_, Reads.bool b, fun _ => by simp⟩
  | .int i, v, u, p, h, e, r => by simp only [toPyR] at e; cases e; rw [rp_int] at h; subst h; obtain ⟨t, rfl⟩ := r; exact ⟨_, Reads.int i t, fun _ => by simp⟩
  | .str x, v, u, p, h, e, r => by simp only [toPyR] at e; cases e; rw [rp_str] at h; subst h; obtain ⟨t, rfl⟩ := r; exact ⟨_, Reads.str x t, fun _ => by simp⟩
  | .tup xs, v, u, p, h, e, r => by
    simp only [toPyR] at e
    obtain ⟨ps, e1, rfl⟩ := Option.map_eq_some_iff.mp e
    obtain ⟨a, vs, rfl, h1, h2⟩ := rp_tup.mp h
    cases r
    obtain ⟨its, rv, ⟨o, ho, hc, n, hd⟩, _⟩ := I.tuple (same_t hs h1)
    obtain ⟨as, hr, hn⟩ := rpl_reads I hs h2 e1 rv
    exact ⟨_, Reads.tuple ho hc hd hr, fun z => hn (by simpa only [noL] using z)⟩
  | .lst xs, v, u, p, h, e, r => by
    simp only [toPyR] at e
    obtain ⟨ps, e1, rfl⟩ := Option.map_eq_some_iff.mp e
    obtain ⟨a, vs, rfl, h1, h2⟩ := rp_lst.mp h
    cases r
    obtain ⟨its, rv, ⟨o, n, ho, hc, _, hd⟩, _⟩ := I.list (SqL.of (hs _ _ h1))
    obtain ⟨as, hr, _⟩ := rpl_reads I hs h2 e1 rv
    exact ⟨_, Reads.list ho hc hd hr, fun z => by simp only [noL] at z; cases z⟩
  | .scr ns, v, u, p, h, e, r => by
    simp only [toPyR] at e
    cases e
    obtain ⟨a, rfl, h1⟩ := rp_scr.mp h
    cases r
    obtain ⟨its, rv, ⟨o, n, ho, hc, _, hd⟩, _⟩ := I.list (same_l hs h1)
    exact ⟨_, Reads.list ho hc hd (readsAll_ints rv), fun z => by simp only [noL] at z; cases z⟩
  | .dct [] [], v, u, p, h, e, r => by
    simp only [toPyR] at e
    cases e
    simp only [Rp] at h
    obtain ⟨a, vs, rfl, h1, h2, h3⟩ := h
    cases r
    have hh : H a = some (.dK []) ∨ H a = some (.dT []) := by
      rcases h3 with ⟨kk, e1, e2⟩ | ⟨kk, e1, e2⟩
      · have : kk = [] := by simpa using e1.symm
        subst this
        exact .inl (hs _ _ e2)
      · have : kk = [] := by simpa using e1.symm
        subst this
        exact .inr (hs _ _ e2)
    obtain ⟨q1, q2⟩ := dct_reads I hh
    exact ⟨_, q1, fun _ => by simpa using fun z => q2 z.symm⟩
  | .dct (_ :: _) _, _, _, _, _, e, _ => by simp only [toPyR] at e; cases e
  | .dct [] (_ :: _), _, _, _, _, e, _ => by simp only [toPyR] at e; cases e
  | .obj _ _, _, _, _, _, e, _ => by simp only [toPyR] at e; cases e
theorem rpl_reads (I : Inv X pins σ H s) (hs : Same F H) : ∀ {ds : List D} {vs : List V} {us : List Value} {ps : List PyData}, RpL X.K ct F ds vs → toPyRL ds = some ps → Vals vs us → ∃ as, ReadsAll s.heap us ps as ∧ (noLL ds = true → sysModules ∉ as)
  | [], vs, us, ps, h, e, r => by simp only [toPyRL] at e; cases e; rw [rpl_nil] at h; subst h; cases r; exact ⟨_, ReadsAll.nil, fun _ => by simp⟩
  | d :: ds, vs, us, ps, h, e, r => by
    obtain ⟨v, w, rfl, h1, h2⟩ := rpl_cons.mp h
    simp only [toPyRL] at e
    split at e
    · rename_i p ps' e1 e2
      cases e
      cases r with
      | cons q1 q2 =>
        obtain ⟨as, z1, z2⟩ := rp_reads I hs h1 e1 q1
        obtain ⟨bs, y1, y2⟩ := rpl_reads I hs h2 e2 q2
        refine ⟨_, ReadsAll.cons z1 y1, fun hn => ?_⟩
        simp only [noLL, Bool.and_eq_true] at hn
        rw [List.mem_append, not_or]
        exact ⟨z2 hn.1, y2 hn.2⟩
    · cases e
end
def reprOk (d : D) (p : PyData) : Bool := p.showable && decide (p.shown.length ≤ sizeLine) && decide (p.depth ≤ 60) && (!p.hasDict || noL d)
def rRepr (K : Frag) (ct : Ct) : List V → Hp → VK → Prop := fun vs H Q => ∃ (F : Hp) (v : V) (d : D) (p : PyData), vs = [v] ∧ Same F H ∧ Rp K ct F d v ∧ toPyR d = some p ∧ reprOk d p = true ∧ Q (.str p.shown) H
theorem cr_repr (hgd : X.A.guards = some []) (hu : X.A.units + 64 < cLine) : CallR X (.builtin "repr") (rRepr X.K ct) := by
  intro pins s σ H vs us Q I r h
  obtain ⟨F, v, d, p, rfl, hs, hd, e, ok, q⟩ := h
  unfold reprOk at ok
  simp only [Bool.and_eq_true, decide_eq_true_eq, Bool.or_eq_true, Bool.not_eq_true'] at ok
  obtain ⟨⟨⟨k1, k2⟩, k3⟩, k4⟩ := ok
  obtain ⟨u, rfl, ru⟩ := vals1 r
  obtain ⟨as, hr, hn⟩ := rp_reads I hs hd e ru
  have hsm : p.hasDict = true → sysModules ∉ as := fun z => by
    rcases k4 with k4 | k4
    · rw [k4] at z; cases z
    · exact hn k4
  have fin : ∀ h' k tk, (∀ b o, s.heap.get? b = some o → h'.get? b = some o) → EP X pins σ Q (.str p.shown k) { s with heap := h', toks := tk } := fun h' k tk hk => ⟨.str p.shown, H, I.kept hk, ⟨k, rfl⟩, q⟩
  cases hr with
  | none => exact PySem.P.repr_of_none (fin s.heap _ _ fun _ _ z => z)
  | bool b => cases b <;> exact PySem.P.repr_of_bool (fin s.heap _ _ fun _ _ z => z)
  | int i t => exact PySem.P.repr_of_int (by simpa [PyData.showable] using k1) (fin s.heap _ _ fun _ _ z => z)
  | str x t => exact PySem.P.repr_of_str (fin s.heap _ _ fun _ _ z => z) k2
  | list a1 a2 a3 a4 => exact repr_of_reads' (Reads.list a1 a2 a3 a4) k1 hsm hgd (by omega) (fun _ _ z => z) (fun h' u tk hk => fin h' u tk hk) k2
  | tuple a1 a2 a3 a4 => exact repr_of_reads' (Reads.tuple a1 a2 a3 a4) k1 hsm hgd (by omega) (fun _ _ z => z) (fun h' u tk hk => fin h' u tk hk) k2
  | dict a1 a2 a3 a4 a5 => exact repr_of_reads' (Reads.dict a1 a2 a3 a4 a5) k1 hsm hgd (by omega) (fun _ _ z => z) (fun h' u tk hk => fin h' u tk hk) k2
def dRepr : List D → Option D
  | [d] => (toPyR d).bind fun p => if reprOk d p = true then some (.str p.shown) else none
  | _ => none
/-- repr of frozen data -/
theorem e_repr {e : Expr} {es : List Expr} {p : Pos} {ms : M (List D)} (hgd : X.A.guards = some []) (hu : X.A.units + 64 < cLine) (hK : S.C.K = X.K) (ha : EvA X S Γ (e :: es) ms) (hm : X.mg "repr" = none) (hv : bootBuiltins "repr" = some (.builtin "repr") := by decide +kernel) (hg : Gl X "repr" := by rfl)
    (he : starEach (e :: es) X.env = (false, eval e X.env) :: starEach es X.env := by rfl) (hpl : (backTo pos (starEach es X.env)).any (·.1) = false := by rfl) : EvE X S Γ (.Call (.Name "repr" p) (e :: es) [] pos) (mA dRepr ms) :=
  pe_imp (pe_callB (cr_repr (ct := S.C.ct) hgd hu) hg hm hv ha (by decide) (by decide) he hpl) fun σ H Q q => by
    refine (Tr.bind (R1 := rL S) rD_late q).mono fun vs H1 ⟨ds, F1, r, q⟩ => ?_
    obtain ⟨z, e1, hs, k⟩ := q.opt0
    unfold dRepr at e1
    split at e1
    · obtain ⟨p, e2, e3⟩ := Option.bind_eq_some_iff.mp e1
      split at e3
      · rename_i ok
        cases e3
        obtain ⟨v, w, rfl, r1, r2⟩ := rpl_cons.mp r
        rw [rpl_nil.mp r2]
        rw [hK] at r1
        exact ⟨F1, v, _, p, rfl, hs, r1, e2, ok, k _ (rp_str.mpr rfl)⟩
      · cases e3
    · cases e1
end
end G
/-! G17: instances: made, their attributes stored, their methods called. -/
namespace G
open PySem PySem.Spec PyProof.Rows L2
section
variable {X : Cx} {W : WX} {k n : Nat} {f C : Addr} {fd : FuncData} {ps kn : List Str} {sp : Sp} {g : List Value → List Value → List Value} {gV : List V → List V → List V} {x m : Str} {p pos apos : Pos} {e o : Expr} {es : List Expr} {kws : List Keyword} {t tkw : TA} {ta : TE}
theorem run_mk {pins : List (Addr × Obj)} {σ : L2.St} {H : Hp} {s : Shared} {Q : VK} {us ws : List Value} {vs zs : List V} (M : Mk X.K C f) (F : FnG X.prog X.w X.K X.mg X.base (L2.CX X.prog X.w) k f fd ps sp) (hgd : X.A.guards = some []) (hr : Room (k + 1) X.A) (hb : KBn X.K fd ps (n + 1) kn g gV) (tk : Takes X W)
    (I : Inv X pins σ H s) (r : Vals vs us) (rz : Vals zs ws) (l1 : vs.length = n) (l2 : zs.length = kn.length)
    (h : ∀ x dx, H x = none → H dx = none → dx ≠ x → sp (gV (.ref x :: vs) zs) (upd (upd H dx (.own x)) x (.ins C dx [])) (fun v H2 => v = .non ∧ Q (.ref x) H2) (WE W σ)) :
    wpAny (model X.prog X.w) X.A (call (.ref C) us (kn.zip ws)) (EP X pins σ Q) X.xe s := by
  have hq := h (s.heap.objs.size + 1) s.heap.objs.size (I.hok.fresh (Nat.le_succ _)) (I.hok.fresh (Nat.le_refl _)) (Nat.ne_of_lt (Nat.lt_succ_self _))
  have I2 := Inv.made (C := C) I
  have r1 : Vals (V.ref (s.heap.objs.size + 1) :: vs) (Value.ref (s.heap.objs.size + 1) :: us) := .cons rfl r
  have r2 := hb.rel r1 rz
  have n1 : (Value.ref (s.heap.objs.size + 1) :: us).length = n + 1 := by
    rw [List.length_cons, ← r.length, l1]
  refine wpAny_call (make_map (f := f) I.kIn M.makes M.init (beq_iff_eq.mp M.fn) (codeAny_mono (F.run _ X.stack _ _ ⟨Value.ref (s.heap.objs.size + 1) :: us, kn.zip ws⟩ (g (Value.ref (s.heap.objs.size + 1) :: us) ws) _ _ (WE W σ) (make_guards hgd C us (kn.zip ws)) (hr.make C us (kn.zip ws))
    (I2.env0.make C us (kn.zip ws)) (hb.to _ (Value.ref (s.heap.objs.size + 1) :: us) ws I2.kIn n1 (rz.length.symm.trans l2)) r2 hq) fun r s' hq' => ?_))
  cases r with
  | error e => exact passAt tk σ pins _ _ e s' I2 hq'
  | ok fl =>
    cases fl with
    | ret u =>
      obtain ⟨v, H', I3, rv, ev, q3⟩ := I2.after hq'
      subst ev
      exact ⟨rv, ⟨V.ref (s.heap.objs.size + 1), H', I3, rfl, q3⟩⟩
    | next => exact False.elim hq'
    | brk => exact False.elim hq'
    | cont => exact False.elim hq'
def tMkG (C : Addr) (n m : Nat) (sp : Sp) (gV : List V → List V → List V) (W : WX) (t tk : TA) : TE := fun σ H Q => t σ H fun vs H1 => tk σ H1 fun zs H2 => vs.length = n ∧ zs.length = m ∧ ∀ x dx, H2 x = none → H2 dx = none → dx ≠ x →
  sp (gV (.ref x :: vs) zs) (upd (upd H2 dx (.own x)) x (.ins C dx [])) (fun v H3 => v = .non ∧ Q (.ref x) H3) (WE W σ)
/-- a class at hand -/
structure ClM (X : Cx) (k : Nat) (C f : Addr) (fd : FuncData) (ps : List Str) (sp : Sp) : Prop where
  mkr : Mk X.K C f
  fn : FnG X.prog X.w X.K X.mg X.base (L2.CX X.prog X.w) k f fd ps sp
  gd : X.A.guards = some []
  rm : Room (k + 1) X.A
theorem pe_mk0 (M : ClM X k C f fd ps sp) (hm : X.mg x = some (.ref C)) (hb : KBn X.K fd ps 1 [] g gV) (tk : Takes X W) (hg : Gl X x := by rfl) (hdb : (x == ("__debug__" : Str)) = false := by decide) :
    PE X (.Call (.Name x p) [] [] pos) (tMkG C 0 0 sp gV W tNil tNil) := by
  refine ⟨fun pins s σ H Q I h => ?_⟩
  refine wpAny_Call_Name_kw (ld_glob I hg hm ?_ hdb)
  obtain ⟨l1, l2, q⟩ := h
  exact PySem.W.callWith_K0 I.kIn M.mkr.kp (run_mk (us := []) (vs := []) (ws := []) (zs := []) M.mkr M.fn M.gd M.rm hb tk I .nil .nil rfl rfl q)
theorem pe_mk (M : ClM X k C f fd ps sp) (hm : X.mg x = some (.ref C)) (hb : KBn X.K fd ps (n + 1) [] g gV) (tk : Takes X W) (ha : PA X (e :: es) t) (hg : Gl X x := by rfl) (hdb : (x == ("__debug__" : Str)) = false := by decide)
    (he : starEach (e :: es) X.env = (false, eval e X.env) :: starEach es X.env := by rfl) (hpl : (backTo pos (starEach es X.env)).any (·.1) = false := by rfl) :
    PE X (.Call (.Name x p) (e :: es) [] pos) (tMkG C n 0 sp gV W t tNil) := by
  refine ⟨fun pins s σ H Q I h => ?_⟩
  refine wpAny_Call_Name_kw (ld_glob I hg hm ?_ hdb)
  refine PySem.W.callWith_K (h₀ := X.base) I.ok.mod.kin M.mkr.kp (thn (ha.run pos pins s σ H _ I h) fun us s1 ⟨vs, H1, I1, r, l1, l2, q⟩ => ⟨I1.kIn, ?_⟩) he hpl
  exact run_mk (ws := []) (zs := []) M.mkr M.fn M.gd M.rm hb tk I1 r .nil l1 rfl q
theorem pe_mkk (M : ClM X k C f fd ps sp) (hm : X.mg x = some (.ref C)) (hb : KBn X.K fd ps (n + 1) kn g gV) (tk : Takes X W) (ha : PA X (e :: es) t) (hkw : PK X kws tkw) (hg : Gl X x := by rfl)
    (hall : (backToKw pos (keywordEach kws X.env)).all (·.1.isSome) = true := by rfl) (hks : (backToKw pos (keywordEach kws X.env)).filterMap (·.1) = kn := by rfl) (hdb : (x == ("__debug__" : Str)) = false := by decide)
    (he : starEach (e :: es) X.env = (false, eval e X.env) :: starEach es X.env := by rfl) (hpl : ((backTo pos (starEach (e :: es) X.env)).any (·.1) || (backToKw pos (keywordEach kws X.env)).any (·.1.isNone)) = false := by rfl) :
    PE X (.Call (.Name x p) (e :: es) kws pos) (tMkG C n kn.length sp gV W t tkw) := by
  refine ⟨fun pins s σ H Q I h => ?_⟩
  refine wpAny_Call_Name_kw (ld_glob I hg hm ?_ hdb)
  refine PySem.W.callWith_KW (h₀ := X.base) I.ok.mod.kin M.mkr.kp hall (thn (ha.run pos pins s σ H _ I h) fun us s1 ⟨vs, H1, I1, r, q⟩ => ?_) hpl he
  refine thn (hkw.run pos pins s1 σ H1 _ I1 q) fun ws s2 ⟨zs, H2, I2, rz, l1, l2, q2⟩ => ⟨I2.kIn, ?_⟩
  rw [hks]
  exact run_mk M.mkr M.fn M.gd M.rm hb tk I2 r rz l1 l2 q2
theorem pe_mkk0 (M : ClM X k C f fd ps sp) (hm : X.mg x = some (.ref C)) (hb : KBn X.K fd ps 1 kn g gV) (tk : Takes X W) (hkw : PK X kws tkw) (hg : Gl X x := by rfl)
    (hall : (backToKw pos (keywordEach kws X.env)).all (·.1.isSome) = true := by rfl) (hks : (backToKw pos (keywordEach kws X.env)).filterMap (·.1) = kn := by rfl) (hdb : (x == ("__debug__" : Str)) = false := by decide)
    (hpl : ((backTo pos (starEach [] X.env)).any (·.1) || (backToKw pos (keywordEach kws X.env)).any (·.1.isNone)) = false := by rfl) :
    PE X (.Call (.Name x p) [] kws pos) (tMkG C 0 kn.length sp gV W tNil tkw) := by
  refine ⟨fun pins s σ H Q I h => ?_⟩
  refine wpAny_Call_Name_kw (ld_glob I hg hm ?_ hdb)
  refine PySem.W.callWith_KW0 (h₀ := X.base) I.ok.mod.kin M.mkr.kp hall ?_ hpl
  refine thn (hkw.run pos pins s σ H _ I h) fun ws s2 ⟨zs, H2, I2, rz, l1, l2, q2⟩ => ⟨I2.kIn, ?_⟩
  rw [hks]
  exact run_mk (us := []) (vs := []) M.mkr M.fn M.gd M.rm hb tk I2 .nil rz rfl l2 q2
end
/-- the state where others' objects change -/
theorem RS.others {C : Fx} {Γ : List Kd} {F F' H H' : Hp} {ρ : Env} {σ : L2.St} {P : Addr → Prop} (r : RS C Γ F ρ σ H) (x : Ext P F H F' H') (hs : Same F' H') (hP : ∀ a, P a → ¬ Own Γ σ a ∧ C.H0 a = none) : RS C Γ F' ρ σ H' where
  sub := hs
  ext := by
    have y1 : Ext (fun b => C.io b ∨ C.H0 b = none) C.F0 C.H0 F H := r.ext.sub fun b z => .inl (.inl z)
    have y2 : Ext (fun b => C.io b ∨ C.H0 b = none) F H F' H' := x.sub fun b z => .inl (.inr (hP b z).2)
    exact (y1.trans y2).sub fun b z => z
  ln := r.ln
  lg := r.lg
  no := r.no
  fz := fun i d h1 h2 => by
    obtain ⟨u, e1, e2⟩ := r.fz i d h1 h2
    exact ⟨u, e1, e2.mono x.f⟩
  ow := fun i d k h1 h2 h3 => by
    obtain ⟨a, o, e1, e2, e3, e4, e5, e6⟩ := r.ow i d k h1 h2 h3
    have oi : Own Γ σ a := ⟨i, by
      cases k with
      | fz => exact absurd rfl h2
      | ow => exact .inl h1
      | io => exact .inr h1, e1⟩
    have na : ¬ P a := fun z => (hP a z).1 oi
    refine ⟨a, o, e1, ?_, x.h a o e3 na, e4.mono x.f, e5, e6⟩
    cases ef : F' a with
    | none => rfl
    | some z =>
      rcases x.g a (by rw [ef]; simp) with z | z
      · exact absurd e2 z
      · rw [e3] at z; cases z
  dj := r.dj
  hio := r.hio
section
variable {X : Cx} {S : Sg} {Γ Γ' : List Kd} {pos : Pos}
/-- C(..): the mirror; the first parameter is the new object -/
def mkR (r : FR) : M D := fun ρ => match r with
  | .ok .non [o] => .ok o ρ
  | .er x _ => .er x ρ
  | _ => .no
def mMk (c n m k : Nat) (gD : List D → List D → List D) (MF : MFn) (a b : M (List D)) : M D := a.bind fun ds => b.bind fun es => if ds.length = n ∧ es.length = m ∧ (gD ds es).length = k then mkR (MF (.obj c [] :: gD ds es)) else M.opt none
theorem tr_mk {ks : List Kd} {MF : MFn} {c n m : Nat} {gD : List D → List D → List D} {gV : List V → List V → List V} {ma mk : M (List D)} (hks : allFz ks = true) (hge : GeLe Γ S.ge) (hgr : ∀ F x vs ds zs es, RpL S.C.K S.C.ct F ds vs → RpL S.C.K S.C.ct F es zs → ∃ ws, gV (x :: vs) zs = x :: ws ∧ RpL S.C.K S.C.ct F (gD ds es) ws)
    {σ : L2.St} {H : Hp} {Q : VK} (q : Tr S Γ (rO S) (mMk c n m ks.length gD MF ma mk) σ H Q) : tMkG (S.C.ct c).1 n m (SpG S.C.K S.C.ct (.io :: ks) false MF) gV S.W (Tr S Γ (rL S) ma) (Tr S Γ (rL S) mk) σ H Q := by
  obtain ⟨F, q⟩ := q
  refine ⟨F, (TrF.bind (R1 := rL S) rO_late q).mono fun vs H1 ⟨ds, F1, r, x1, q⟩ => ⟨F1, (TrF.bind (R1 := rL S) rO_late q).mono fun zs H2 ⟨es, F2, r2, x2, q⟩ => ?_⟩⟩
  split at q
  · rename_i hl
    have ra : RpL S.C.K S.C.ct F2 ds vs := RpL.mono x2.f r
    have rb : RpL S.C.K S.C.ct F2 es zs := r2
    refine ⟨by rw [← ra.length]; exact hl.1, by rw [← rb.length]; exact hl.2.1, fun x dx hx hdx hne => ?_⟩
    obtain ⟨ws, eg, rw'⟩ := hgr F2 (.ref x) vs ds zs es ra rb
    rw [eg]
    obtain ⟨ρ, rs, h⟩ := q
    have hx' : upd H2 dx (.own x) x = none := by rw [upd_ne (Ne.symm hne)]; exact hx
    have rs2 := (rs.newH (o := .own x) hdx).newH (p := x) (o := .ins (S.C.ct c).1 dx []) hx'
    obtain ⟨q1, q2⟩ := arl_fz (H := upd (upd H2 dx (.own x)) x (.ins (S.C.ct c).1 dx [])) hks rw' hl.2.2
    have fx : F2 x = none := rs.sub.free hx
    have nO : ¬ Own Γ σ x := fun z => by
      obtain ⟨_, o, e⟩ := rs.own_some z
      rw [hx] at e; cases e
    have h0 : S.C.H0 x = none := by
      cases e0 : S.C.H0 x with
      | none => rfl
      | some y => exact absurd hx (rs.ext.n x (by rw [e0]; simp))
    have hI : ioA (.io :: ks) (.ref x :: ws) = [x] := by simp only [ioA]; rw [q2]
    have e0 : Ext (Own Γ σ) F2 H2 F2 (upd (upd H2 dx (.own x)) x (.ins (S.C.ct c).1 dx [])) := (Ext.newH hdx).trans (Ext.newH hx')
    refine ⟨F2, .obj c [] :: gD ds es, rs2.sub, ⟨.obj c [], _, x, ws, _, rfl, rfl, fx, upd_same, ?_, q1⟩, by rw [hI]; simp, ?_⟩
    · have := OwO.ins (K := S.C.K) (ct := S.C.ct) (F := F2) (c := c) (dx := dx) (fs := []) (vs := []) (rpl_nil.mpr rfl) (Nat.zero_le _)
      simpa using this
    rw [hI]
    unfold mkR at h
    have up : ∀ {F' H'}, Ext (fun a => a ∈ [x]) F2 (upd (upd H2 dx (.own x)) x (.ins (S.C.ct c).1 dx [])) F' H' → Same F' H' → RS S.C Γ F' ρ σ H' ∧ Ext (Own Γ σ) F2 H2 F' H' := fun {F' H'} y hs => by
      refine ⟨rs2.others y hs fun a ha => ?_, ?_⟩
      · have : a = x := by simpa using ha
        subst this
        exact ⟨nO, h0⟩
      · have y1 : Ext (fun b => Own Γ σ b ∨ b = x) F2 H2 F2 _ := e0.sub fun b z => .inl (.inl z)
        have y2 : Ext (fun b => Own Γ σ b ∨ b = x) F2 _ F' H' := y.sub fun b z => .inl (.inr (by simpa using z))
        exact (y1.trans y2).sub fun b z => z.elim .inl fun z => .inr (by rw [z]; exact hx)
    cases em : MF (.obj c [] :: gD ds es) with
    | no => rw [em] at h; exact h.elim
    | er z outs =>
      rw [em] at h
      intro cl dx2 F' H' y hs rx _
      obtain ⟨r3, y3⟩ := up y hs
      obtain ⟨F3, sm, re⟩ := RE.le r3 hge
      exact h cl dx2 F3 H' (y3.f.trans sm) re (rx.mono sm)
    | ok d outs =>
      rw [em] at h
      cases d <;> try exact h.elim
      match outs, h with
      | [o], h =>
        intro v F' H' y hs rt oo
        obtain ⟨r3, y3⟩ := up y hs
        refine ⟨rp_non.mp (show Rp S.C.K S.C.ct F' .non v from rt), ?_⟩
        cases oo with
        | cons z _ =>
          obtain ⟨z1, ob, z2, z3⟩ := z
          exact h (.ref x) F' H' r3 y3 ⟨x, ob, rfl, hx, z1, z2, z3⟩
  · exact q.nope.elim
/-- how a constructor binds, self first -/
structure BnM (K : Frag) (ct : Ct) (fd : FuncData) (ps : List Str) (n : Nat) (kn : List Str) (gD : List D → List D → List D) : Prop where
  ex : ∃ g gV, KBn K fd ps (n + 1) kn g gV ∧ ∀ F x vs ds zs es, RpL K ct F ds vs → RpL K ct F es zs → ∃ ws, gV (x :: vs) zs = x :: ws ∧ RpL K ct F (gD ds es) ws
variable {k n c : Nat} {f : Addr} {fd : FuncData} {ps kn : List Str} {x : Str} {p : Pos} {e : Expr} {es : List Expr} {kws : List Keyword} {ks : List Kd} {MF : MFn} {gD : List D → List D → List D} {ma mk : M (List D)}
theorem o_mk0 (M : ClM X k (S.C.ct c).1 f fd ps (SpG S.C.K S.C.ct (.io :: ks) false MF)) (hm : X.mg x = some (.ref (S.C.ct c).1)) (hb : BnM X.K S.C.ct fd ps 0 [] gD) (tk : Takes X S.W) (hge : GeLe Γ S.ge) (hK : S.C.K = X.K) (hks : allFz ks = true := by rfl) (hg : Gl X x := by rfl) (hdb : (x == ("__debug__" : Str)) = false := by decide) :
    EvO X S Γ (.Call (.Name x p) [] [] pos) (mMk c 0 0 ks.length gD MF mNil mNil) := by
  obtain ⟨g, gV, hb, hgr⟩ := hb.ex
  refine pe_imp (pe_mk0 M hm hb tk hg hdb) fun σ H Q q => ?_
  have h := (tr_mk hks hge (by rw [hK]; exact hgr) q).elim fun F h => h.ret0 (rpl_nil.mpr rfl)
  exact h.elim fun F h => h.ret0 (rpl_nil.mpr rfl)
theorem o_mk (M : ClM X k (S.C.ct c).1 f fd ps (SpG S.C.K S.C.ct (.io :: ks) false MF)) (hm : X.mg x = some (.ref (S.C.ct c).1)) (hb : BnM X.K S.C.ct fd ps n [] gD) (tk : Takes X S.W) (hge : GeLe Γ S.ge) (ha : EvA X S Γ (e :: es) ma) (hK : S.C.K = X.K) (hks : allFz ks = true := by rfl) (hg : Gl X x := by rfl) (hdb : (x == ("__debug__" : Str)) = false := by decide)
    (he : starEach (e :: es) X.env = (false, eval e X.env) :: starEach es X.env := by rfl) (hpl : (backTo pos (starEach es X.env)).any (·.1) = false := by rfl) :
    EvO X S Γ (.Call (.Name x p) (e :: es) [] pos) (mMk c n 0 ks.length gD MF ma mNil) := by
  obtain ⟨g, gV, hb, hgr⟩ := hb.ex
  refine pe_imp (pe_mk M hm hb tk ha hg hdb he hpl) fun σ H Q q => ?_
  exact (tr_mk hks hge (by rw [hK]; exact hgr) q).elim fun F h => ⟨F, h.mono fun vs H1 h => h.elim fun F h => h.ret0 (rpl_nil.mpr rfl)⟩
theorem o_mkk (M : ClM X k (S.C.ct c).1 f fd ps (SpG S.C.K S.C.ct (.io :: ks) false MF)) (hm : X.mg x = some (.ref (S.C.ct c).1)) (hb : BnM X.K S.C.ct fd ps n kn gD) (tk : Takes X S.W) (hge : GeLe Γ S.ge) (ha : EvA X S Γ (e :: es) ma) (hkw : EvK X S Γ kws mk) (hK : S.C.K = X.K) (hks : allFz ks = true := by rfl) (hg : Gl X x := by rfl)
    (hall : (backToKw pos (keywordEach kws X.env)).all (·.1.isSome) = true := by rfl) (hkn : (backToKw pos (keywordEach kws X.env)).filterMap (·.1) = kn := by rfl) (hdb : (x == ("__debug__" : Str)) = false := by decide)
    (he : starEach (e :: es) X.env = (false, eval e X.env) :: starEach es X.env := by rfl) (hpl : ((backTo pos (starEach (e :: es) X.env)).any (·.1) || (backToKw pos (keywordEach kws X.env)).any (·.1.isNone)) = false := by rfl) :
    EvO X S Γ (.Call (.Name x p) (e :: es) kws pos) (mMk c n kn.length ks.length gD MF ma mk) := by
  obtain ⟨g, gV, hb, hgr⟩ := hb.ex
  exact pe_imp (pe_mkk M hm hb tk ha hkw hg hall hkn hdb he hpl) fun σ H Q q => tr_mk hks hge (by rw [hK]; exact hgr) q
theorem o_mkk0 (M : ClM X k (S.C.ct c).1 f fd ps (SpG S.C.K S.C.ct (.io :: ks) false MF)) (hm : X.mg x = some (.ref (S.C.ct c).1)) (hb : BnM X.K S.C.ct fd ps 0 kn gD) (tk : Takes X S.W) (hge : GeLe Γ S.ge) (hkw : EvK X S Γ kws mk) (hK : S.C.K = X.K) (hks : allFz ks = true := by rfl) (hg : Gl X x := by rfl)
    (hall : (backToKw pos (keywordEach kws X.env)).all (·.1.isSome) = true := by rfl) (hkn : (backToKw pos (keywordEach kws X.env)).filterMap (·.1) = kn := by rfl) (hdb : (x == ("__debug__" : Str)) = false := by decide)
    (hpl : ((backTo pos (starEach [] X.env)).any (·.1) || (backToKw pos (keywordEach kws X.env)).any (·.1.isNone)) = false := by rfl) :
    EvO X S Γ (.Call (.Name x p) [] kws pos) (mMk c 0 kn.length ks.length gD MF mNil mk) := by
  obtain ⟨g, gV, hb, hgr⟩ := hb.ex
  exact pe_imp (pe_mkk0 M hm hb tk hkw hg hall hkn hdb hpl) fun σ H Q q => (tr_mk hks hge (by rw [hK]; exact hgr) q).elim fun F h => h.ret0 (rpl_nil.mpr rfl)
/-! ### a slot's own object: an attribute stored -/
def mFl (i c j : Nat) (m : M D) : MS := .of m fun d ρ => match ρ[i]? with
  | some (some (.obj c' fs)) => if c' = c then (if j < fs.length then .nx (ρ.set i (some (.obj c (fs.set j d)))) else if j = fs.length then .nx (ρ.set i (some (.obj c (fs ++ [d])))) else .no) else .no
  | _ => .no
theorem putF_end {f : Str} {y : V} : ∀ {ns : List Str} {vs : List V}, ns[vs.length]? = some f → ns.Nodup → putF f y (ns.zip vs) = ns.zip (vs ++ [y])
  | [], vs, h, _ => by simp at h
  | n :: ns, [], h, _ => by
    simp at h
    subst h
    cases ns <;> simp [putF, List.zip]
  | n :: ns, v :: vs, h, nd => by
    have nd' := List.nodup_cons.mp nd
    have h' : ns[vs.length]? = some f := by simpa using h
    have ne : n ≠ f := fun z => nd'.1 (by rw [z]; exact List.mem_of_getElem? h')
    show putF f y ((n, v) :: ns.zip vs) = (n, v) :: ns.zip (vs ++ [y])
    unfold putF
    rw [if_neg ne, putF_end h' nd'.2]
theorem putF_at {f : Str} {y : V} : ∀ {ns : List Str} {vs : List V} {j : Nat}, ns[j]? = some f → j < vs.length → ns.Nodup → putF f y (ns.zip vs) = ns.zip (vs.set j y)
  | [], vs, j, h, _, _ => by simp at h
  | n :: ns, [], j, _, h, _ => by simp at h
  | n :: ns, v :: vs, 0, h, _, nd => by
    simp at h
    subst h
    show putF n y ((n, v) :: ns.zip vs) = (n, y) :: ns.zip vs
    unfold putF
    rw [if_pos rfl]
  | n :: ns, v :: vs, j + 1, h, hl, nd => by
    have nd' := List.nodup_cons.mp nd
    have h' : ns[j]? = some f := by simpa using h
    have ne : n ≠ f := fun z => nd'.1 (by rw [z]; exact List.mem_of_getElem? h')
    show putF f y ((n, v) :: ns.zip vs) = (n, v) :: ns.zip (vs.set j y)
    unfold putF
    rw [if_neg ne, putF_at h' (by simpa using hl) nd'.2]
theorem owo_obj {K : Frag} {ct : Ct} {F : Hp} {c : Nat} {fs : List D} {o : HO} (h : OwO K ct F (.obj c fs) o) : ∃ dx vs, o = .ins (ct c).1 dx ((ct c).2.zip vs) ∧ vs.length ≤ (ct c).2.length ∧ RpL K ct F fs vs := by
  generalize hd : D.obj c fs = dd at h
  cases h with
  | lst _ => cases hd
  | dK _ _ => cases hd
  | dT _ _ => cases hd
  | ins q1 q2 => cases hd; exact ⟨_, _, rfl, q2, q1⟩
theorem s_fl {i c j : Nat} {kd : Kd} {o value : Expr} {f : Str} {m : M D} {pos' : Pos} (ho : PE X o (tVar i)) (hv : EvE X S Γ value m) (hk : Γ[i]? = some kd) (hn : kd ≠ .fz) (hK : S.C.K = X.K) (cl : Cls X.K (S.C.ct c).1) (na : NoAttr X.K (S.C.ct c).1 f) (hj : (S.C.ct c).2[j]? = some f) (nd : (S.C.ct c).2.Nodup) (hz : (S.C.ct c).2.length < 1000)
    (hs : swapsWith value (some (.Attribute o f pos')) pos.line X.env = pure false := by rfl) : EvS X S Γ Γ (.Assign [.Attribute o f pos'] value pos) (mFl i c j m) := ps_imp (ps_fld ho hv hs) fun D σ H h => by
  refine (Ts.of (R := rD S) h).mono fun v H1 ⟨d, F1, ρ1, q, _, rs, h⟩ => ?_
  cases e1 : ρ1[i]? with
  | none => simp only [e1] at h; exact (show False from h).elim
  | some y =>
    cases y with
    | none => simp only [e1] at h; exact (show False from h).elim
    | some dd =>
      simp only [e1] at h
      obtain ⟨a, ob, z1, z2, z3, z4, _⟩ := rs.ow i dd kd hk hn e1
      cases dd <;> try exact (show False from h).elim
      rename_i c' fs
      simp only at h
      by_cases ec : c' = c
      · subst ec
        rw [if_pos rfl] at h
        obtain ⟨dx, vs, rfl, hl, hf⟩ := owo_obj z4
        have ow : Ow1 Γ σ i a := ⟨by
          cases kd with
          | fz => exact absurd rfl hn
          | ow => exact .inl hk
          | io => exact .inr hk, z1⟩
        have lz : ((S.C.ct c').2.zip vs).length < 1000 := by rw [List.length_zip]; omega
        refine ⟨_, z1, a, _, dx, _, rfl, z3, cl, na, lz, ?_⟩
        by_cases h1 : j < fs.length
        · rw [if_pos h1] at h
          rw [putF_at hj (by rw [← hf.length]; exact h1) nd]
          exact h σ F1 _ (Same.refl _) (rs.write ow (.ins (hf.set q j) (by rw [List.length_set]; exact hl)))
        · rw [if_neg h1] at h
          by_cases h2 : j = fs.length
          · rw [if_pos h2] at h
            have hj' : (S.C.ct c').2[vs.length]? = some f := by rw [← hf.length, ← h2]; exact hj
            rw [putF_end hj' nd]
            refine h σ F1 _ (Same.refl _) (rs.write ow (.ins (hf.append (.one q)) ?_))
            rw [List.length_append, List.length_singleton]
            exact (List.getElem?_eq_some_iff.mp hj').1
          · rw [if_neg h2] at h; exact (show False from h).elim
      · rw [if_neg ec] at h; exact (show False from h).elim
end
end G
/-! G18: methods, str of an instance, raise, try, code that is never reached. -/
namespace G
open PySem PySem.Spec PyProof.Rows L2
/-! ### never -/
def mNo {α : Type} : M α := fun _ => .no
def sNo : MS := fun _ => .no
section
variable {X : Cx} {S : Sg} {Γ Γ' : List Kd}
theorem s_never {st : Stmt} : EvS X S Γ Γ' st sNo := ⟨fun _ _ _ _ _ _ ⟨_, _, _, h⟩ => h.elim⟩
theorem ss_never {st : List Stmt} : EvSs X S Γ Γ' st sNo := ⟨fun _ _ _ _ _ _ ⟨_, _, _, h⟩ => h.elim⟩
theorem e_never {e : Expr} : EvE X S Γ e mNo := ⟨fun _ _ _ _ _ _ ⟨_, _, _, h⟩ => h.elim⟩
theorem o_never {e : Expr} : EvO X S Γ e mNo := ⟨fun _ _ _ _ _ _ ⟨_, _, _, h⟩ => h.elim⟩
theorem t_never {e : Expr} : EvT X S Γ e mNo := ⟨fun _ _ _ _ _ _ ⟨_, _, _, h⟩ => h.elim⟩
end
/-! ### methods -/
section
variable {X : Cx} {W : WX} {k n : Nat} {f C : Addr} {fd : FuncData} {ps kn : List Str} {sp : Sp} {g : List Value → List Value → List Value} {gV : List V → List V → List V} {x m : Str} {p pos apos : Pos} {e o : Expr} {es : List Expr} {kws : List Keyword} {t tkw : TA} {ta : TE}
def tMtG (C : Addr) (m : Str) (n : Nat) (sp : Sp) (gV : List V → List V → List V) (W : WX) (ta : TE) (t : TA) : TE := fun σ H Q => ta σ H fun x H1 => ∃ a dx fs, x = .ref a ∧ H1 a = some (.ins C dx fs) ∧ fs.lookup m = none ∧
  t σ H1 fun vs H2 => (x :: vs).length = n ∧ sp (gV (x :: vs) []) H2 Q (WE W σ)
theorem pe_mtG {pl : Sem Bool} (he : PE X o ta) (c : Cls X.K C) (hm : Meth X.K C m f) (F : Fn X k f fd ps sp) (hb : KBn X.K fd ps n [] g gV) (tk : Takes X W) (ha : PA X (e :: es) t)
    (hst : starEach (e :: es) X.env = (false, eval e X.env) :: starEach es X.env := by rfl) (hpl : (backTo pos (starEach es X.env)).any (·.1) = false := by rfl)
    (ht : eval (.Call (.Attribute o m apos) (e :: es) [] pos) X.env = (do
      let ov ← eval o X.env
      standAt apos.atName
      let (f, first) ← holding [ov] (getMethod ov m pl)
      callWith pos f first (backTo pos (starEach (e :: es) X.env)) (backToKw pos (keywordEach [] X.env))) := by rfl) :
    PE X (.Call (.Attribute o m apos) (e :: es) [] pos) (tMtG C m n sp gV W ta t) := by
  refine ⟨fun pins s σ H Q I h => ?_⟩
  refine PySem.W.methodCall_KW (pl := pl) (thn (he.run pins s σ H _ I h) fun u s1 ⟨x, H1, I1, rx, a, dx, fs, ex, ea, l, q⟩ => ?_) ht
  subst ex
  obtain rfl : u = Value.ref a := rx
  refine getmeth_ok I1 ea c hm l ?_
  refine PySem.W.callWith_K (first := [.ref a]) (h₀ := X.base) I.ok.mod.kin hm.kp (thn (ha.run pos pins s1 σ H1 _ I1 q) fun us s2 ⟨vs, H2, I2, r, l1, q2⟩ => ⟨I2.kIn, ?_⟩) hst hpl
  exact run_g (us := .ref a :: us) (vs := .ref a :: vs) (ws := []) (zs := []) F.fn F.gd F.rm hb tk I2 (.cons rfl r) .nil l1 rfl q2
theorem pe_mtG0 {pl : Sem Bool} (he : PE X o ta) (c : Cls X.K C) (hm : Meth X.K C m f) (F : Fn X k f fd ps sp) (hb : KBn X.K fd ps n [] g gV) (tk : Takes X W)
    (ht : eval (.Call (.Attribute o m apos) [] [] pos) X.env = (do
      let ov ← eval o X.env
      standAt apos.atName
      let (f, first) ← holding [ov] (getMethod ov m pl)
      callWith pos f first (backTo pos (starEach [] X.env)) (backToKw pos (keywordEach [] X.env))) := by rfl) :
    PE X (.Call (.Attribute o m apos) [] [] pos) (tMtG C m n sp gV W ta tNil) := by
  refine ⟨fun pins s σ H Q I h => ?_⟩
  refine PySem.W.methodCall_KW (pl := pl) (thn (he.run pins s σ H _ I h) fun u s1 ⟨x, H1, I1, rx, a, dx, fs, ex, ea, l, l1, q⟩ => ?_) ht
  subst ex
  obtain rfl : u = Value.ref a := rx
  refine getmeth_ok I1 ea c hm l ?_
  exact PySem.W.callWith_K0 (first := [.ref a]) I1.kIn hm.kp (run_g (us := [.ref a]) (vs := [.ref a]) (ws := []) (zs := []) F.fn F.gd F.rm hb tk I1 (.cons rfl .nil) .nil l1 rfl q)
/-- str(x), x of a class with its own __str__ -/
theorem cr_strO (F : FnG X.prog X.w X.K X.mg X.base (L2.CX X.prog X.w) k f fd ps sp) (hgd : X.A.guards = some []) (hr : Room (k + 2) X.A) (hb : BnF X.K fd ps) (h1 : ps.length = 1) (hs : PySem.W.findIn X.K (.ref C) "__str__" = some (some (.ref f))) (hf : PySem.W.isFn X.K (.ref f) = true) :
    CallR X (.type "str") (fun vs H Q => ∃ a dx fs, vs = [.ref a] ∧ H a = some (.ins C dx fs) ∧ sp [.ref a] H (fun v H' => ∃ y, v = .str y ∧ Q (.str y) H') (fun _ _ _ => False)) := by
  intro pins s σ H xs us Q I r h
  obtain ⟨a, dx, fs, rfl, ha, h⟩ := h
  rw [Vals.ref1 r]
  obtain ⟨mA, O, _⟩ := ins_get I.hok ha
  obtain ⟨od, J, _⟩ := O.look
  refine PySem.W.kso_call hr.in1.in1.units0 I.kIn J hs hf ?_
  have r2 : Vals [V.ref a] [Value.ref a] := .cons rfl .nil
  refine wpAny_call (codeAny_mono (F.run X.A.in1.in1 X.stack s H ⟨[.ref a], []⟩ [.ref a] [.ref a] _ (fun _ _ _ => False) hgd hr.in1.in1 (I.env0.in1.in1) ?_ r2 h) fun r s' hq => ?_)
  · have := hb.to s [.ref a] [] I.kIn (by rw [h1]; rfl) rfl
    simpa using this
  · cases r with
    | error e =>
      obtain ⟨_, _, _, _, _, _, _, _, _, _, _, _, z⟩ := hq
      exact z.elim
    | ok fl =>
      cases fl with
      | ret u =>
        obtain ⟨v, H', I', rv, y, ev, q⟩ := I.after hq
        subst ev
        obtain ⟨t, rfl⟩ := rv
        exact ⟨.str y, H', I', ⟨t, rfl⟩, q⟩
      | next => exact False.elim hq
      | brk => exact False.elim hq
      | cont => exact False.elim hq
end
section
variable {X : Cx} {S : Sg} {Γ Γ' : List Kd} {pos : Pos} {k n c : Nat} {f : Addr} {fd : FuncData} {ps : List Str} {m : Str} {p apos : Pos} {o e : Expr} {es : List Expr} {ks : List Kd} {MF : MFn} {gD : List D → List D → List D} {mo : M D} {ma : M (List D)}
/-- o.m(..), o frozen: the mirror -/
def isObj (c : Nat) : D → Bool
  | .obj c' _ => decide (c' = c)
  | _ => false
def mMth (c n k : Nat) (gD : List D → List D → List D) (MF : MFn) (o : M D) (a : M (List D)) : M D := o.bind fun x => if isObj c x = true then a.bind fun ds => if (x :: ds).length = n ∧ (gD (x :: ds) []).length = k then frM (MF (gD (x :: ds) [])) else M.opt none else M.opt none
theorem zip_lookup_none {ns : List Str} {vs : List V} {m : Str} (h : m ∉ ns) : (ns.zip vs).lookup m = none := by
  induction ns generalizing vs with
  | nil => rfl
  | cons n ns ih =>
    cases vs with
    | nil => rfl
    | cons v vs =>
      rw [List.zip_cons_cons, List.lookup_cons]
      rw [List.mem_cons, not_or] at h
      rw [beq_eq_false_iff_ne.mpr h.1]
      exact ih h.2
theorem rp_isObj {K : Frag} {ct : Ct} {F : Hp} {c : Nat} {d : D} {v : V} (h : isObj c d = true) (r : Rp K ct F d v) : ∃ a dx vs, v = .ref a ∧ F a = some (.ins (ct c).1 dx ((ct c).2.zip vs)) := by
  cases d <;> simp only [isObj] at h <;> try (cases h; done)
  rename_i c' fs
  have : c' = c := of_decide_eq_true h
  subst this
  obtain ⟨a, dx, vs, e, h1, _⟩ := rp_obj.mp r
  exact ⟨a, dx, vs, e, h1⟩
theorem tr_mth (hks : allFz ks = true) (hge : GeLe Γ S.ge) (hn : m ∉ (S.C.ct c).2) {gV : List V → List V → List V} (hgr : ∀ F vs ds zs es, RpL S.C.K S.C.ct F ds vs → RpL S.C.K S.C.ct F es zs → RpL S.C.K S.C.ct F (gD ds es) (gV vs zs)) {σ : L2.St} {H : Hp} {Q : VK} (q : Tr S Γ (rD S) (mMth c n ks.length gD MF mo ma) σ H Q) :
    tMtG (S.C.ct c).1 m n (SpG S.C.K S.C.ct ks false MF) gV S.W (Tr S Γ (rD S) mo) (Tr S Γ (rL S) ma) σ H Q := by
  refine (Tr.bind (R1 := rD S) rD_late q).mono fun v H1 ⟨d, F1, r, q⟩ => ?_
  by_cases hi : isObj c d = true
  · rw [if_pos hi] at q
    obtain ⟨a, dx, vs, rfl, ha⟩ := rp_isObj hi r
    obtain ⟨ρ1, rs1, _⟩ := id q
    refine ⟨a, dx, _, rfl, rs1.sub _ _ ha, zip_lookup_none hn, F1, (TrF.bind (R1 := rL S) rD_late q).mono fun ws H2 ⟨ds, F2, r2, x2, q⟩ => ?_⟩
    split at q
    · rename_i hl
      have ra : RpL S.C.K S.C.ct F2 (d :: ds) (.ref a :: ws) := rpl_cons.mpr ⟨_, _, rfl, Rp.mono x2.f r, r2⟩
      exact ⟨by rw [← ra.length]; exact hl.1, spg_fz hks hge (hgr _ _ _ _ _ ra (rpl_nil.mpr rfl)) hl.2 q⟩
    · exact q.nope.elim
  · rw [if_neg hi] at q
    exact q.nope.elim
theorem e_mth {pl : Sem Bool} (ho : EvE X S Γ o mo) (cl : Cls X.K (S.C.ct c).1) (hm : Meth X.K (S.C.ct c).1 m f) (F : Fn X k f fd ps (SpG S.C.K S.C.ct ks false MF)) (hb : BnD X.K S.C.ct fd ps n [] gD) (tk : Takes X S.W) (hge : GeLe Γ S.ge) (ha : EvA X S Γ (e :: es) ma) (hn : m ∉ (S.C.ct c).2) (hK : S.C.K = X.K) (hks : allFz ks = true := by rfl)
    (hst : starEach (e :: es) X.env = (false, eval e X.env) :: starEach es X.env := by rfl) (hpl : (backTo pos (starEach es X.env)).any (·.1) = false := by rfl)
    (ht : eval (.Call (.Attribute o m apos) (e :: es) [] pos) X.env = (do
      let ov ← eval o X.env
      standAt apos.atName
      let (f, first) ← holding [ov] (getMethod ov m pl)
      callWith pos f first (backTo pos (starEach (e :: es) X.env)) (backToKw pos (keywordEach [] X.env))) := by rfl) :
    EvE X S Γ (.Call (.Attribute o m apos) (e :: es) [] pos) (mMth c n ks.length gD MF mo ma) := by
  obtain ⟨g, gV, hb, hgr⟩ := hb.ex
  exact pe_imp (pe_mtG ho cl hm F hb tk ha hst hpl ht) fun σ H Q q => tr_mth hks hge hn (by rw [hK]; exact hgr) q
theorem e_mth0 {pl : Sem Bool} (ho : EvE X S Γ o mo) (cl : Cls X.K (S.C.ct c).1) (hm : Meth X.K (S.C.ct c).1 m f) (F : Fn X k f fd ps (SpG S.C.K S.C.ct ks false MF)) (hb : BnD X.K S.C.ct fd ps n [] gD) (tk : Takes X S.W) (hge : GeLe Γ S.ge) (hn : m ∉ (S.C.ct c).2) (hK : S.C.K = X.K) (hks : allFz ks = true := by rfl)
    (ht : eval (.Call (.Attribute o m apos) [] [] pos) X.env = (do
      let ov ← eval o X.env
      standAt apos.atName
      let (f, first) ← holding [ov] (getMethod ov m pl)
      callWith pos f first (backTo pos (starEach [] X.env)) (backToKw pos (keywordEach [] X.env))) := by rfl) :
    EvE X S Γ (.Call (.Attribute o m apos) [] [] pos) (mMth c n ks.length gD MF mo mNil) := by
  obtain ⟨g, gV, hb, hgr⟩ := hb.ex
  refine pe_imp (pe_mtG0 ho cl hm F hb tk ht) fun σ H Q q => ?_
  refine (show Tr S Γ (rD S) mo σ H _ from tr_mth (gV := gV) (ma := mNil) hks hge hn (by rw [hK]; exact hgr) q).mono fun v H1 ⟨a, dx, fs, e1, e2, e3, h⟩ => ⟨a, dx, fs, e1, e2, e3, ?_⟩
  obtain ⟨F, h⟩ := h
  exact h.ret0 (rpl_nil.mpr rfl)
/-- str(x) of an instance: the mirror -/
def mStrO (c : Nat) (MF : MFn) (m : M D) : M D := m.bind fun x => if isObj c x = true then (match MF [x] with
  | .ok (.str y) _ => M.ret (.str y)
  | _ => M.opt none) else M.opt none
theorem e_strO (F : FnG X.prog X.w X.K X.mg X.base (L2.CX X.prog X.w) k f fd ps (SpG S.C.K S.C.ct [.fz] false MF)) (hgd : X.A.guards = some []) (hr : Room (k + 2) X.A) (hb : BnF X.K fd ps) (h1 : ps.length = 1) (hs : PySem.W.findIn X.K (.ref (S.C.ct c).1) "__str__" = some (some (.ref f))) (hf : PySem.W.isFn X.K (.ref f) = true) (he : EvE X S Γ e mo) (hm : X.mg "str" = none) (hK : S.C.K = X.K)
    (hv : bootBuiltins "str" = some (.type "str") := by decide +kernel) (hg : Gl X "str" := by rfl) (hst : starEach [e] X.env = (false, eval e X.env) :: starEach [] X.env := by rfl) :
    EvE X S Γ (.Call (.Name "str" p) [e] [] pos) (mStrO c MF mo) := pe_imp (pe_callTy (cr_strO F hgd hr hb h1 hs hf) hg hm hv (pa_cons he pa_nil hst) (by decide) (by decide) hst rfl) fun σ H Q q => by
  refine (Tr.bind (R1 := rD S) rD_late q).mono fun v H1 ⟨d, F1, r, q⟩ => ?_
  by_cases hi : isObj c d = true
  · rw [if_pos hi] at q
    obtain ⟨a, dx, vs, rfl, ha⟩ := rp_isObj hi r
    cases em : MF [d] with
    | no => rw [em] at q; exact q.nope.elim
    | er x o => rw [em] at q; exact q.nope.elim
    | ok z outs =>
      rw [em] at q
      cases z with
      | str y =>
        obtain ⟨ρ, rs, q⟩ := q
        refine ⟨a, dx, _, rfl, rs.sub _ _ ha, F1, [d], rs.sub, ⟨d, [], _, [], rfl, rfl, r, rfl, rfl⟩, List.nodup_nil, ?_⟩
        rw [em]
        intro v F' H' x hs rt _
        have x : Ext (fun _ => False) F1 H1 F' H' := x.sub fun b z => by simp [ioA] at z
        exact ⟨y, rp_str.mp (show Rp S.C.K S.C.ct F' (.str y) v from rt), q _ F' H' (rs.grow x hs) (x.sub fun _ z => z.elim) (rp_str.mpr rfl)⟩
      | _ => exact q.nope.elim
  · rw [if_neg hi] at q
    exact q.nope.elim
/-! ### raise C('..'), C without an __init__ of its own -/
def mRs (x : Ex) : MS := fun ρ => .er x ρ
theorem s_raise {x ms : Str} {j : Nat} {p2 : Pos} {B newId initId : String} {bmB : List Value} (hc : X.calm = true) (tk : Takes X S.W) (hge : GeLe Γ S.ge) (Fb : ExcBaseFacts B newId initId bmB) (q : PySem.W.excIn X.K (S.C.ct c).1 bmB newId = true) (gC : X.mg x = some (.ref (S.C.ct c).1)) (kC : PySem.W.keepIn X.K (.ref (S.C.ct c).1) = true) (r : Raises X (.ref (S.C.ct c).1)) (hns : (S.C.ct c).2 = [])
    (hg : Gl X x := by rfl) (hdb : (x == ("__debug__" : Str)) = false := by decide) :
    EvS X S Γ Γ' (.Raise (some (.Call (.Name x p) [.Constant (.str ms) j p2] [] pos)) none apos) (mRs ⟨c, []⟩) := ps_imp (ps_raise hc tk (pmk_own Fb q gC kC r hg hdb)) fun D σ H ⟨F, ρ, rs, h⟩ => by
  obtain ⟨F', sm, re⟩ := RE.le rs hge
  exact h _ none σ F' H sm re ⟨rfl, by simp [hns]⟩
/-! ### try .. except C: -/
/-- which exceptions are caught: by numbers -/
def noE (h : MS) : MS := fun ρ => match h ρ with
  | .er _ _ => .no
  | r => r
def mTry (caught : Nat → Bool) (b : MS) (h : MS) : MS := fun ρ => match b ρ with
  | .er x ρ' => if caught x.c = true then noE h ρ' else .er x ρ'
  | r => r
/-- the handler's surroundings -/
abbrev Sg.tr (S : Sg) (W : WX) (Γe : List Kd) : Sg := { S with W := W, ge := some Γe }
abbrev Sg.su (S : Sg) : Sg := { S with W := fun _ _ _ _ => False }
theorem s_try {x : Str} {C : Value} {body suite : List Stmt} {b₀ : Stmt} {np pos' : Pos} {Γe : List Kd} {caught : Nat → Bool} {mb mh : MS} (hs : X.stack = X.env :: X.outer) (hf : X.env.frame = some X.env.locals) (hc : Names X x C) (tk : Takes X S.W) (hge : GeLe Γe S.ge) (hK : S.C.K = X.K)
    (hex : ∀ i, PySem.W.exmOne X.K (.ref (S.C.ct i).1) C = some (caught i))
    (hb : ∀ (W : WX) (pn : List (Addr × Obj)) (xe : Value → Shared → Prop), Takes (X.tr pn xe) W → PassesOwn (model X.prog X.w) X.A X.env xe → EvSs (X.tr pn xe) (S.tr W Γe) Γ Γ' body mb)
    (hsu : ∀ (a : Addr) (oe : Obj) (pn : List (Addr × Obj)), EvSs (X.suite a ((a, oe) :: pn)) S.su Γe Γ' (b₀ :: suite) mh) :
    EvS X S Γ Γ' (.Try body [.ExceptHandler (some (.Name x np)) none (b₀ :: suite) pos'] [] [] pos) (mTry caught mb mh) :=
  ps_imp (ps_try_only hs hf hc tk (tb := fun W => Ts (S.tr W Γe) Γ Γ' mb) (ts := fun _ _ _ => Ts S.su Γe Γ' mh) (fun W pn xe t pw => hb W pn xe t pw) (fun a oe cls d pn _ _ => hsu a oe pn)) fun D σ H ⟨F, ρ, rs, h⟩ => by
    refine ⟨F, ρ, rs, ?_⟩
    unfold mTry at h
    cases e : mb ρ with
    | nx ρ' => rw [e] at h; exact h
    | rt d ρ' => rw [e] at h; exact h
    | bk ρ' => rw [e] at h; exact h
    | ct ρ' => rw [e] at h; exact h
    | no => rw [e] at h; exact h
    | er z ρ' =>
      rw [e] at h
      simp only at h
      intro cl dx σ' F' H' sm re rx
      obtain ⟨rcl, rdx⟩ := id rx
      refine ⟨caught z.c, by rw [rcl]; exact hex z.c, fun hz a _ => ?_, fun hz => ?_⟩
      · rw [if_pos hz] at h
        refine ⟨F', ρ', re, ?_⟩
        have h' := h.late sm
        unfold noE at h'
        cases em : mh ρ' with
        | er y ρ2 => rw [em] at h'; exact (show False from h').elim
        | nx ρ2 => rw [em] at h'; exact h'
        | rt d ρ2 => rw [em] at h'; exact h'
        | bk ρ2 => rw [em] at h'; exact h'
        | ct ρ2 => rw [em] at h'; exact h'
        | no => rw [em] at h'; exact h'
      · rw [if_neg (by rw [hz]; exact Bool.false_ne_true)] at h
        obtain ⟨F2, sm2, re2⟩ := RE.le re hge
        exact h cl dx σ' F2 H' (sm.trans sm2) re2 (rx.mono sm2)
end
end G
/-! G19: t[::-1], {}, a module's ints; the law's end; the head's facts. -/
namespace HT
open PySem PySem.Spec PyProof.Rows
section
variable {prog : Program} {w : World} {A : Around} {E : Value → Shared → Prop} {s : Shared}
theorem gAdj (n : Nat) : Builtin.Slice.sliceAdjust none none (-1) (n : Int) = ((n : Int) - 1, -1) := by
  unfold Builtin.Slice.sliceAdjust
  simp
theorem gPlaces (n : Nat) : Builtin.Slice.slicePlaces ((n : Int) - 1) (-1) (-1) = n := by
  unfold Builtin.Slice.slicePlaces
  simp
  try (split <;> omega)
theorem gApplied {sl : Addr} {vl vu vk : Value} {n : Nat} {Q : Int × Int × Nat → Shared → Prop} (hs : s.heap.IsSliceOf sl vl vu vk) (pl : IsPart vl none) (pu : IsPart vu none) (pk : IsPart vk (some (-1)))
    (h : Q ((n : Int) - 1, -1, n) s) : wpAny (model prog w) A (Builtin.Slice.sliceApplied (.ref sl) (pure (n : Int))) Q E s := by
  obtain ⟨os, hos, hcs, hds⟩ := id hs
  unfold Builtin.Slice.sliceApplied Builtin.Slice.sliceFields
  refine wpAny_bind (wpAny_bind (wpAny_field hos hds (x := vl) rfl (wpAny_bind (wpAny_field hos hds (x := vu) rfl (wpAny_bind (wpAny_field hos hds (x := vk) rfl (wpAny_pure ?_)))))))
  refine wpAny_bind (slicePart_ pk ?_)
  show wpAny _ _ (if ((-1 : Int) == 0) = true then _ else _) _ _ s
  rw [if_neg (by decide)]
  refine wpAny_bind (slicePart_ pl (wpAny_bind (slicePart_ pu (wpAny_bind (wpAny_pure ?_)))))
  show wpAny _ _ (match Builtin.Slice.sliceAdjust none none (-1) (n : Int) with | (lo, hi) => pure (lo, (-1 : Int), Builtin.Slice.slicePlaces lo hi (-1))) _ _ s
  rw [gAdj n]
  show wpAny _ _ (pure ((n : Int) - 1, (-1 : Int), Builtin.Slice.slicePlaces ((n : Int) - 1) (-1) (-1))) _ _ s
  rw [gPlaces]
  exact wpAny_pure h
theorem gPick (xs : Array Value) : ((List.range xs.size).filterMap fun (m : Nat) => xs[((xs.size : Int) - 1 + (m : Int) * (-1)).toNat]?).toArray = xs.toList.reverse.toArray := by
  have e : (List.range xs.size).filterMap (fun (m : Nat) => xs[((xs.size : Int) - 1 + (m : Int) * (-1)).toNat]?) = ((List.range xs.size).map fun k => xs.size - 1 - k).filterMap (xs[·]?) := by
    rw [List.filterMap_map]
    have gc : ∀ (l : List Nat), (∀ m ∈ l, m < xs.size) → l.filterMap (fun (m : Nat) => xs[((xs.size : Int) - 1 + (m : Int) * (-1)).toNat]?) = l.filterMap ((fun (k : Nat) => xs[k]?) ∘ fun k => xs.size - 1 - k) := by
      intro l
      induction l with
      | nil => intro _; rfl
      | cons a l ih =>
        intro hm
        have h1 := hm a (List.mem_cons_self ..)
        have e2 : ((xs.size : Int) - 1 + (a : Int) * (-1)).toNat = xs.size - 1 - a := by omega
        have e3 : xs[((xs.size : Int) - 1 + (a : Int) * (-1)).toNat]? = xs[xs.size - 1 - a]? := by rw [e2]
        rw [List.filterMap_cons, List.filterMap_cons, ih fun m q => hm m (List.mem_cons_of_mem _ q), e3]
        rfl
    exact gc _ fun m q => List.mem_range.mp q
  rw [e, PySem.W.krv_range, List.filterMap_reverse, PySem.W.krv_all]
theorem gRev {t sl : Addr} {items : Array Value} {vl vu vk : Value} {Q : Value → Shared → Prop} (ht : IsTup s.heap t items) (hs : s.heap.IsSliceOf sl vl vu vk) (pl : IsPart vl none) (pu : IsPart vu none) (pk : IsPart vk (some (-1)))
    (h : Q (.ref s.heap.objs.size) { s with heap := s.heap.push { cls := .type "tuple", data := .seq items.toList.reverse.toArray } })
    (hsz : items.size ≤ sizeLine) : wpAny (model prog w) A (getItem (.ref t) (.ref sl)) Q E s := by
  have htake : sizeOk (.seq items.toList.reverse.toArray) := by
    show items.toList.reverse.toArray.size ≤ sizeLine
    rw [List.size_toArray, List.length_reverse, Array.length_toList]
    exact hsz
  obtain ⟨os, hos, hcs, hds⟩ := id hs
  have hTs : s.TypeIs (.ref sl) "slice" := ⟨os, hos, hcs⟩
  unfold getItem
  try with_reducible refine wpAny_holding ?_
  first | refine wpAny_bind (wpAny_pure ?_) | skip
  refine wpAny_bind (wpAny_sequenceKey ht.typeIs (by decide) ?_)
  refine wpAny_bind (wpAny_callSpecial?_slot (name := Str.ofString "__getitem__") ht.typeIs PyProof.Rows.slot_tuple_getitem
    (wpAny_call_entry PyProof.Rows.slot_tuple_getitem ht.typeIs entry_tuple_getitem ?_ (args_tuple_getitem _ _)))
  show wpAny _ _ (Builtin.Tuple.tupleItemsOf (.ref t) >>= _) _ _ s
  refine wpAny_bind (tupleItemsOf_ ht ?_)
  refine wpAny_bind (wpAny_typeOf hTs ?_)
  rw [if_pos (by decide)]
  refine wpAny_bind (gApplied hs pl pu pk ?_)
  have hno : ¬ ((((items.size : Int) - 1) == 0 && (-1 : Int) == 1 && items.size == items.size) = true) := by
    intro q
    rw [Bool.and_eq_true, Bool.and_eq_true] at q
    exact absurd (eq_of_beq q.1.2) (by decide)
  show wpAny _ _ (if (((items.size : Int) - 1) == 0 && (-1 : Int) == 1 && items.size == items.size) = true then _ else _) _ _ s
  rw [if_neg hno, gPick]
  first
    | exact wpAny_bind (m := Builtin.Tuple.tupleExact _) (wpAny_newObj_type (wpAny_pure ⟨_, rfl, wpAny_pure h⟩) htake)
    | exact wpAny_bind (m := Builtin.Tuple.tupleExact _) (wpAny_newObj_type (wpAny_bind (wpAny_pure (wpAny_pure ⟨_, rfl, wpAny_pure h⟩))) htake)
    | exact wpAny_bind (wpAny_bind (m := Builtin.Tuple.tupleExact _) (wpAny_newObj_type (wpAny_pure (wpAny_pure ⟨_, rfl, wpAny_pure h⟩)) htake))
    | exact wpAny_bind (wpAny_bind (m := Builtin.Tuple.tupleExact _) (wpAny_newObj_type (wpAny_pure ⟨_, rfl, wpAny_pure h⟩) htake))
end
end HT
namespace G
open PySem PySem.Spec PyProof.Rows L2
section
variable {X : Cx} {S : Sg} {Γ : List Kd} {pos : Pos}
/-! ### t[::-1] -/
def tRv (K : Frag) (te : TE) : TE := fun σ H Q => te σ H fun x H1 => (∃ a xs, x = .ref a ∧ SqT K H1 a xs ∧ ∀ p, H1 p = none → Q (.ref p) (upd H1 p (.tup xs.reverse))) ∨ (∃ a xs, x = .ref a ∧ SqL K H1 a xs ∧ ∀ p, H1 p = none → Q (.ref p) (upd H1 p (.lst xs.reverse)))
theorem pe_rv {e : Expr} {te : TE} {k : Nat} {p1 p2 p3 pos : Pos} (he : PE X e te) : PE X (.Subscript e (.Slice none none (some (.UnaryOp .USub (.Constant (.int 1) k p1) p2)) p3) pos) (tRv X.K te) := by
  refine ⟨fun pins s σ H Q I h => ?_⟩
  refine Subscript_ (thn (he.run pins s σ H _ I h) fun v s1 ⟨x, H1, I1, r1, q1⟩ => ?_)
  obtain ⟨a, ev⟩ : ∃ a, x = .ref a := by
    rcases q1 with ⟨a, _, e, _⟩ | ⟨a, _, e, _⟩
    · exact ⟨a, e⟩
    · exact ⟨a, e⟩
  subst ev
  cases r1
  have hst : PO X (some (.UnaryOp .USub (.Constant (.int 1) k p1) p2)) (tPart (tUn (rU fun i => .int (-i)) (tC (.int 1)))) := po_some (pe_un un_neg pe_int)
  refine wpAny_Slice (thn (po_none.run pins s1 σ H1 (fun o H2 => o = none ∧ H2 = H1) I1 ⟨rfl, rfl⟩) fun vl s2 ⟨l, H2, I2, pl, el, e2⟩ => ?_)
  subst el e2
  refine thn (po_none.run pins s2 σ H2 (fun o H3 => o = none ∧ H3 = H2) I2 ⟨rfl, rfl⟩) fun vu s3 ⟨u, H3, I3, pu, eu, e3⟩ => ?_
  subst eu e3
  refine thn (hst.run pins s3 σ H3 (fun o H4 => o = some (-1) ∧ H4 = H3) I3 ⟨1, rfl, -1, rfl, rfl, rfl⟩) fun vs s4 ⟨o, H4, I4, ps, eo, e4⟩ => ?_
  subst eo e4
  have I5 : Inv X pins σ H4 { s4 with heap := s4.heap.push { cls := .type "slice", data := .fields #[vl, vu, vs] } } := I4.kept (t' := s4.toks) fun b ob q => Heap.get?_push_of_some _ q
  show wpAny (model X.prog X.w) X.A (subscriptTail e (.Slice none none (some (.UnaryOp .USub (.Constant (.int 1) k p1) p2)) p3) (.ref a) (.ref s4.heap.objs.size)) (EP X pins σ Q) X.xe { s4 with heap := s4.heap.push { cls := .type "slice", data := .fields #[vl, vu, vs] } }
  rcases q1 with ⟨a', xs, ea, hx, q⟩ | ⟨a', xs, ea, hx, q⟩
  · cases ea
    obtain ⟨its, r, ht, hz⟩ := I5.tuple hx
    have hlen := r.length
    refine tail_any (ops := [.ref a, .ref s4.heap.objs.size]) ht.typeIs (PyProof.Rows.slot_tuple_getitem.lookup) ?_ (by with_unfolding_all rfl)
    refine HT.gRev ht (Heap.IsSliceOf.new _ vl vu vs) pl pu ps ?_ (by rw [List.size_toArray]; omega)
    refine ⟨.ref _, _, I5.laid (t' := s4.toks) (o := .tup xs.reverse) (fun b ob q => Heap.get?_push_of_some _ q) (Nat.le_refl _) ?_, rfl, q _ (I5.hok.fresh (Nat.le_refl _))⟩
    refine ⟨by rw [List.length_reverse]; exact hz, its.reverse, r.reverse, ?_⟩
    have e9 : its.toArray.toList.reverse = its.reverse := by simp
    rw [e9]
    exact IsTup.new _ _
  · cases ea
    obtain ⟨its, r, ht, hz⟩ := I5.list hx
    have hlen := r.length
    refine tail_any (ops := [.ref a, .ref s4.heap.objs.size]) ht.isList.typeIs (PySem.slot_list_getitem.lookup) ?_ (by with_unfolding_all rfl)
    refine wpAny_getItem_list_slice ht.isList (Heap.IsSliceOf.new _ vl vu vs) pl pu ps (by decide) ?_ (by rw [List.size_toArray]; omega)
    rw [PySem.W.krv_pick]
    refine ⟨.ref _, _, I5.laid (t' := s4.toks) (o := .lst xs.reverse) (fun b ob q => Heap.get?_push_of_some _ q) (Nat.le_refl _) ?_, rfl, q _ (I5.hok.fresh (Nat.le_refl _))⟩
    exact ⟨by rw [List.length_reverse]; exact hz, _, 0, r.reverse, Heap.get?_push_size _ rfl⟩
def dRv : D → Option D
  | .tup xs => some (.tup xs.reverse)
  | .lst xs => some (.lst xs.reverse)
  | .scr ns => some (.lst (ns.map D.int).reverse)
  | _ => none
theorem e_rv {e : Expr} {m : M D} {k : Nat} {p1 p2 p3 : Pos} (h : EvR X S Γ e m) (hK : S.C.K = X.K) : EvE X S Γ (.Subscript e (.Slice none none (some (.UnaryOp .USub (.Constant (.int 1) k p1) p2)) p3) pos) (m1 dRv m) := pe_imp (pe_rv h) fun σ H Q q => by
  refine (Tr.bind (R1 := rR S) rD_late q).mono fun v H1 ⟨d, F1, r, q⟩ => ?_
  obtain ⟨z, e1, hs, k⟩ := q.opt1
  have r : Rv S.C.K S.C.ct F1 H1 d v := r
  cases d <;> simp only [dRv] at e1 <;> (try (cases e1; done)) <;> cases e1
  · obtain ⟨a, vs, rfl, h1, h2⟩ := rv_tup.mp r
    exact .inl ⟨a, vs, rfl, by rw [← hK]; exact same_t hs h1, fun p hp => k _ p _ hp (rp_tup.mpr ⟨p, _, rfl, SqT.of upd_same, h2.reverse.mono (same_updF (hs.free hp))⟩)⟩
  · obtain ⟨a, vs, rfl, h1, h2⟩ := rv_lst.mp r
    exact .inr ⟨a, vs, rfl, SqL.of h1, fun p hp => k _ p _ hp (rp_lst.mpr ⟨p, _, rfl, upd_same, h2.reverse.mono (same_updF (hs.free hp))⟩)⟩
  · obtain ⟨a, rfl, h1⟩ := rv_scr.mp r
    exact .inr ⟨a, _, rfl, by rw [← hK]; exact same_l hs h1, fun p hp => k _ p _ hp (rp_lst.mpr ⟨p, _, rfl, upd_same, rpl_ints.reverse⟩)⟩
/-! ### {} and a module's int -/
def mDk : M D := M.opt (some (.dct [] []))
theorem e_dk : EvE X S Γ (.Dict [] [] pos) mDk := pe_imp pe_dnewK fun σ H Q ⟨F, q⟩ => by
  obtain ⟨z, e1, hs, k⟩ := q.opt1
  cases e1
  refine fun p hp => k _ p _ hp ?_
  show Rp S.C.K S.C.ct _ (.dct [] []) _
  simp only [Rp]
  exact ⟨p, [], rfl, rpl_nil.mpr rfl, rfl, .inl ⟨[], rfl, upd_same⟩⟩
theorem e_gint {x : Str} {i : Int} (hm : ∃ t, X.mg x = some (.int i t)) (hg : Gl X x := by rfl) (hdb : (x == ("__debug__" : Str)) = false := by decide) : EvE X S Γ (.Name x pos) (mC (.int i)) := by
  obtain ⟨t, hm⟩ := hm
  have h : PE X (.Name x pos) (tC (.int i)) := ⟨fun pins s σ H Q I q => ld_glob I hg hm ⟨.int i, H, I, ⟨t, rfl⟩, q⟩ hdb⟩
  exact e_c h fun _ => rp_int.mpr rfl
/-- a slot as a name -/
theorem pe_sl {i : Nat} {x : Str} (hN : X.N[i]? = some x) (hv : Vis X.env.scope x) (hd : (x == ("__debug__" : Str)) = false := by decide) (hcd : (x == ("__classdict__" : Str)) = false := by decide) : PE X (.Name x pos) (tVar i) := pe_var hN hv hd hcd
end
/-! ### the law's end -/
theorem law_callG {P : Program} {w : World} {K : Frag} {mg mb : Str → Option Value} {k : Nat} {fa a : Addr} {fd : FuncData} {x : Str} {sp : Sp} {s₁ : Shared} {vs : List Value} {ns : List Int}
    (KX : K.In s₁.heap) (hns : s₁.heap.Ns mainGlobals mg) (hb : s₁.heap.Ns builtinsNs mb) (hbb : ∀ x : Str, x ≠ "__name__" → mb x = bootBuiltins x) (hlim : s₁.heap.NoLimit) (hg : s₁.gens = #[])
    (ha : s₁.heap.get? a = some { cls := .type "list", data := .seq vs.toArray }) (hi : IntsAre vs ns) (hl : ns.length ≤ sizeLine) (hr : Room k callerA)
    (F : ∀ base : Heap, K.In base → base.Ns mainGlobals mg → FnG P w K mg base (L2.CX P w) k fa fd [x] sp) (hbind : ∀ (s : Shared) (u : Value), BindsTo s fd ⟨[u], []⟩ [(x, u)])
    (hsp : ∀ H : Hp, Only H → SqL K H a (ns.map V.int) → sp [.ref a] H (fun v _ => v = .bl true) fun _ _ _ => False) :
    codeAny (model P w) callerA (.call (.ref fa) ⟨[.ref a], []⟩) (fun r s' => r = .ok (.ret (.bool true)) ∧ OldK s₁.heap s'.heap ∧ s'.os = s₁.os ∧ AllBare s'.gens) s₁ := by
  have rv := vals_ints hi
  have lenV := hi.length
  have core : ∀ H : Hp, Only H → SqL K H a (ns.map V.int) → HOk P w H s₁.heap → (∀ b, H b ≠ none → b = a) → (H a ≠ none → K.lookup a = none) →
      codeAny (model P w) callerA (.call (.ref fa) ⟨[.ref a], []⟩) (fun r s' => r = .ok (.ret (.bool true)) ∧ OldK s₁.heap s'.heap ∧ s'.os = s₁.os ∧ AllBare s'.gens) s₁ := by
    intro H hO hS hok hA hK
    have base_of : ∀ {b : Addr} {o : Obj}, s₁.heap.get? b = some o → H b = none → (hidT s₁.heap H).get? b = some o := fun e n => hidT_get e n
    have noA : ∀ {b : Addr} {o : Obj} {es : Array DictEntry} {ep : Nat}, s₁.heap.get? b = some o → o.data = .dict es ep → H b = none := fun {b o es ep} e d => by
      cases q : H b with
      | none => rfl
      | some u =>
        have e' : b = a := hA b (by rw [q]; simp)
        subst e'
        rw [ha] at e; cases e
        have d' : Data.seq vs.toArray _ = Data.dict es ep := d
        cases d'
    have nsK : ∀ {b : Addr} {m : Str → Option Value}, s₁.heap.Ns b m → (hidT s₁.heap H).Ns b m := fun {b m} ⟨o, es, ep, e, d, r⟩ => ⟨o, es, ep, base_of e (noA e d), d, r⟩
    have hKb : K.In (hidT s₁.heap H) := fun b o e => base_of (KX b o e) (by
      cases q : H b with
      | none => rfl
      | some u =>
        have e' : b = a := hA b (by rw [q]; simp)
        subst e'
        rw [hK (by rw [q]; simp)] at e; cases e)
    have hM : Mod K mg (hidT s₁.heap H) := ⟨hKb, nsK hns, ⟨mb, nsK hb, hbb⟩, let ⟨mc, h1, h2⟩ := hlim; ⟨mc, nsK h1, h2⟩⟩
    have e0 : Env0 P w K mg (hidT s₁.heap H) callerA [] s₁ H := ⟨rfl, hM, fun b o e => of_hidT e, Nat.le_of_eq (hidT_size _ _), trivial, fun b hb => absurd (show b ∈ ([] : List Addr) from hb) (by simp), hok, .of_eq hg⟩
    refine codeAny_mono ((F _ hKb (nsK hns)).run callerA [] s₁ H ⟨[.ref a], []⟩ [.ref a] [.ref a] _ _ rfl hr e0 (hbind s₁ (.ref a)) (.cons rfl .nil) (hsp H hO hS)) fun r s' h => ?_
    cases r with
    | error e =>
      obtain ⟨_, _, _, _, _, _, _, _, _, _, _, _, z⟩ := h
      exact z.elim
    | ok fl =>
      cases fl with
      | next => exact False.elim h
      | brk => exact False.elim h
      | cont => exact False.elim h
      | ret u =>
        obtain ⟨v, H', os, bare, un, hok', r', q⟩ := h
        have q' : v = .bl true := q
        subst q'
        obtain rfl : u = Value.bool true := r'
        refine ⟨rfl, OldK.of_keep fun b o e => ?_, os, bare⟩
        cases q : H b with
        | none => exact un.keep b o e q (by intro z; exact absurd (show b ∈ ([] : List Addr) from z) (by simp)) (by simp)
        | some u =>
          rcases hO b with z | ⟨ob, xs, z⟩
          · rw [q] at z; cases z
          · have z2 := un.frzs b ob _ z
            obtain ⟨e1, _⟩ := hok b _ z
            obtain ⟨e2, _⟩ := hok' b _ z2
            rw [e] at e1; cases e1
            exact e2
  cases hk : K.lookup a with
  | some o =>
    have e := KX a o hk
    rw [ha] at e
    cases e
    refine core (fun _ => none) (fun _ => .inl rfl) (.inr ⟨_, vs.toArray, _, hk, rfl, rfl, rfl, by rw [List.size_toArray, lenV]; exact hl, by simpa using rv⟩) (fun b u z => by have z' : (none : Option HO) = some u := z; cases z') (fun b z => absurd rfl z) fun z => absurd rfl z
  | none =>
    refine core (fun b => if b = a then some (.frz { cls := .type "list", data := .seq vs.toArray } (.lst (ns.map V.int))) else none) (fun b => ?_) (.inl (.inr ⟨{ cls := .type "list", data := .seq vs.toArray }, if_pos rfl⟩)) (fun b u z => ?_) (fun b z => ?_) fun _ => hk
    · by_cases hb : b = a
      · exact .inr ⟨_, _, if_pos hb⟩
      · exact .inl (if_neg hb)
    · by_cases hb : b = a
      · have z' := (if_pos hb).symm.trans z
        cases z'
        subst hb
        exact ⟨ha, by rw [List.length_map]; exact hl, vs, _, rv, ha⟩
      · have z' := (if_neg hb).symm.trans z
        cases z'
    · by_cases hb : b = a
      · exact hb
      · exact absurd (if_neg hb) z
theorem walk_ofG {l : PySem.W.OpenLaw} {n k : Nat} {q : Program} {loose : List Str} {XP : (Str → Option Value) → Heap → Prop} {YP : World → Heap → Prop} {d : DefRec} {x : Str}
    (hn : l.most = some n) (hn2 : n ≤ sizeLine) (hdf : d.params.defaults = []) (hr : Room k callerA)
    (F : ∀ (w : World) (mg : Str → Option Value) (fa : Addr) (h : Heap), YP w h → h.Ns mainGlobals mg → mg d.name = some (.ref fa) →
      ∃ (K : Frag) (ct : Ct) (fd : FuncData) (MF : MFn), K.In h ∧ (∀ (s : Shared) (u : Value), BindsTo s fd ⟨[u], []⟩ [(x, u)]) ∧
        (∀ (ns : List Int), ns.length ≤ n → ∃ o, MF [.scr ns] = .ok (.bl true) o) ∧
        ∀ base : Heap, K.In base → base.Ns mainGlobals mg → FnG l.prog w K mg base (L2.CX l.prog w) k fa fd [x] (SpG K ct [.fz] false MF)) :
    PySem.W.WalkO q loose XP YP l.row.toRowW d [] (fun f vs => PySem.call f vs) := by
  refine Att.attach_call hn hdf fun w s₀ s₁ mg mb fa o pm cd doc a vs ns G Y ho hd hcd hmg hobj hints hlen hg => ?_
  obtain ⟨K, ct, fd, MF, KX, hb, hsp, hF⟩ := F w mg fa _ Y G.T.g hmg
  refine law_callG KX G.T.g G.T.b G.T.builtins G.T.nolimit hg hobj hints (Nat.le_trans hlen hn2) hr hF hb fun H hO hS => ?_
  obtain ⟨ou, eo⟩ := hsp ns hlen
  refine ⟨H, [.scr ns], Same.refl _, ⟨_, [], _, [], rfl, rfl, rp_scr.mpr ⟨a, rfl, hS⟩, rfl, rfl⟩, List.nodup_nil, ?_⟩
  rw [eo]
  exact fun v F' H' _ _ rt _ => rp_bl.mp (show Rp K ct F' (.bl true) v from rt)
/-! ### the head's facts, with own ones -/
abbrev AlG : Type := He.AlD × Bool
def obsG (n : Nat) (fa : List He.Fa) (fn : List He.DefD) (ex : Frag → Bool) (g : Addr → Option Obj) : AlG := (He.obsDG n fa fn g, ex (He.frG g (He.asD g n)))
def hookG (n : Nat) (fa : List He.Fa) (fn : List He.DefD) (ex : Frag → Bool) : PySem.W.Hook where
  α := AlG
  obs := fun s => obsG n fa fn ex s.heap.get?
  val := fun _ => (He.valD fn, true)
  says := fun _ h => ∃ K : Frag, K.In h ∧ He.SaysD fa fn K ∧ ex K = true
  of := fun _ _ e => ⟨_, He.frG_in, congrArg Prod.fst e, congrArg Prod.snd e⟩
  keeps := fun _ _ _ ⟨K, hK, c⟩ k => ⟨K, PySem.W.Frag.In.keeps hK k, c⟩
theorem obsG_eq {n : Nat} {fa : List He.Fa} {fn : List He.DefD} {ex : Frag → Bool} {g : Addr → Option Obj} {s : Shared} (h : ∀ a, g a = s.heap.get? a) : obsG n fa fn ex g = (hookG n fa fn ex).obs s := by
  have e : g = s.heap.get? := funext h
  rw [e] <;> rfl
/-- isinstance's facts of an own class, by looking -/
def clsFB (K : Frag) (C : Addr) : Bool := decide (PySem.W.findIn K (.ref C) "__class__" = some (some (.builtin "object.__class__"))) && decide (PySem.W.specialIn K (.builtin "object.__class__") "__get__" = some (some (.builtin "getset_descriptor.__get__"))) && decide (PySem.W.takesIn K (.builtin "object.__class__") = some true) && decide (PySem.W.mroIn K C (.type "object") = some true)
theorem clsF_of {K : Frag} {C : Addr} (cl : Cls K C) (h : clsFB K C = true) : ClsF K C := by
  unfold clsFB at h
  simp only [Bool.and_eq_true, decide_eq_true_eq] at h
  exact ⟨cl, h.1.1.1, h.1.1.2, h.1.2, h.2⟩
def notBB (K : Frag) (C : Addr) : Bool := ["NoneType", "bool", "int", "str", "tuple", "list", "dict"].all fun t => decide (PySem.W.kitOne K (.type t) (.ref C) = some false)
theorem notB_of {K : Frag} {C : Addr} (h : notBB K C = true) : NotB K C := fun t ht => by
  unfold notBB at h
  exact of_decide_eq_true (List.all_eq_true.mp h t ht)
/-- an empty tuple that stands in the module's part -/
def tup0B (K : Frag) (a : Addr) : Bool := match K.lookup a with
  | some ⟨.type c, _, .seq its _, _⟩ => decide (c = "tuple") && decide (its.size = 0)
  | _ => false
theorem tup0_of {K : Frag} {ct : Ct} {a : Addr} (h : tup0B K a = true) (F : Hp) : Rp K ct F (.tup []) (.ref a) := by
  unfold tup0B at h
  split at h
  · rename_i c dd its n sl e
    simp only [Bool.and_eq_true, decide_eq_true_eq] at h
    obtain ⟨rfl, h2⟩ := h
    refine rp_tup.mpr ⟨a, [], rfl, .inr ⟨_, its, n, e, rfl, rfl, by rw [h2]; exact Nat.zero_le _, ?_⟩, rpl_nil.mpr rfl⟩
    have : its.toList = [] := by
      have := Array.length_toList (xs := its)
      rw [h2] at this
      exact List.length_eq_zero_iff.mp this
    rw [this]
    exact .nil
  · cases h
/-- a keyword-only default's address -/
def kwAt (p : Str × Option Str) (x : Str) (K : Frag) : Addr := match K.lookup (He.fAd K p) with
  | some ⟨_, _, .func fd, _⟩ => (match fd.kwdefaults with
    | .ref D => (match PySem.W.nsIn K D x with
      | some (some (.ref a)) => a
      | _ => 0)
    | _ => 0)
  | _ => 0
end G
/-! G20: binding by places, what a law's head gives. -/
namespace G
open PySem PySem.Spec PyProof.Rows L2
def pickL {α : Type} (is : List Nat) (xs : List α) : List α := is.filterMap fun i => xs[i]?
theorem vals_at : ∀ {vs : List V} {us : List Value} (h : Vals vs us) (i : Nat), (vs[i]? = none ∧ us[i]? = none) ∨ ∃ v u, vs[i]? = some v ∧ us[i]? = some u ∧ RelV v u
  | _, _, .nil, i => .inl ⟨by simp, by simp⟩
  | _, _, .cons r h, 0 => .inr ⟨_, _, rfl, rfl, r⟩
  | _, _, .cons r h, i + 1 => by simpa using vals_at h i
theorem vals_pick {vs : List V} {us : List Value} (h : Vals vs us) : ∀ is : List Nat, Vals (pickL is vs) (pickL is us)
  | [] => .nil
  | i :: is => by
    unfold pickL
    rcases vals_at h i with ⟨e1, e2⟩ | ⟨v, u, e1, e2, r⟩
    · rw [List.filterMap_cons_none e1, List.filterMap_cons_none e2]
      exact vals_pick h is
    · rw [List.filterMap_cons_some e1, List.filterMap_cons_some e2]
      exact .cons r (vals_pick h is)
theorem rpl_ix {K : Frag} {ct : Ct} {F : Hp} : ∀ {ds : List D} {vs : List V} (h : RpL K ct F ds vs) (i : Nat), (ds[i]? = none ∧ vs[i]? = none) ∨ ∃ d v, ds[i]? = some d ∧ vs[i]? = some v ∧ Rp K ct F d v
  | [], vs, h, i => by
    have := rpl_nil.mp h
    subst this
    exact .inl ⟨by simp, by simp⟩
  | d :: ds, vs, h, 0 => by
    obtain ⟨v, ws, rfl, r, _⟩ := rpl_cons.mp h
    exact .inr ⟨d, v, rfl, rfl, r⟩
  | d :: ds, vs, h, i + 1 => by
    obtain ⟨v, ws, rfl, _, r⟩ := rpl_cons.mp h
    simpa using rpl_ix r i
theorem rpl_pick {K : Frag} {ct : Ct} {F : Hp} {ds : List D} {vs : List V} (h : RpL K ct F ds vs) : ∀ is : List Nat, RpL K ct F (pickL is ds) (pickL is vs)
  | [] => rpl_nil.mpr rfl
  | i :: is => by
    unfold pickL
    rcases rpl_ix h i with ⟨e1, e2⟩ | ⟨d, v, e1, e2, r⟩
    · rw [List.filterMap_cons_none e1, List.filterMap_cons_none e2]
      exact rpl_pick h is
    · rw [List.filterMap_cons_some e1, List.filterMap_cons_some e2]
      exact rpl_cons.mpr ⟨_, _, rfl, r, rpl_pick h is⟩
theorem pick_succ {α : Type} {x : α} {r : List α} : ∀ is : List Nat, pickL (is.map (· + 1)) (x :: r) = pickL is r
  | [] => rfl
  | i :: is => by
    have ih := pick_succ (x := x) (r := r) is
    unfold pickL at ih ⊢
    rw [List.map_cons]
    have e : (x :: r)[i + 1]? = r[i]? := by simp
    cases q : r[i]? with
    | none => rw [List.filterMap_cons_none (by rw [e, q]), List.filterMap_cons_none q, ih]
    | some y => rw [List.filterMap_cons_some (by rw [e, q]), List.filterMap_cons_some q, ih]
section
variable {K : Frag} {ct : Ct} {x qual : Str} {params : Arguments} {body : List Stmt} {scope : Scope} {dvs : List V} {kws : List (Str × V)} {f : Addr} {fd : FuncData} {ps : List Str}
/-- keywords, no defaults -/
theorem bnD_k (F : FunD K x qual params body scope [] kws f fd) (n : Nat) (ks : List Str) (is : List Nat)
    (h : ∀ (kV doc pm : Value) (an : Option Addr) (cdv ct : Value) (us ws : List Value), us.length = n → ws.length = ks.length → bindArgs (PySem.W.fnOf x qual params body scope .none kV doc pm an cdv ct) ⟨us, ks.zip ws⟩ = pure (ps.zip (pickL is (us ++ ws)))) :
    BnD K ct fd ps n ks (fun ds es => pickL is (ds ++ es)) := by
  obtain ⟨oc, od, dV, kV, doc, pm, an, cdv, ct, osl, rfl, lk, hcd, hD, hK⟩ := F.ex
  rcases hD with ⟨_, rfl⟩ | ⟨e, _⟩
  · refine ⟨fun us ws => pickL is (us ++ ws), fun vs zs => pickL is (vs ++ zs), ⟨fun s us ws X l1 l2 => .of_eq (h kV doc pm an cdv ct us ws l1 l2), fun r1 r2 => vals_pick (r1.append r2) is⟩, fun F vs ds zs es r1 r2 => rpl_pick (r1.append r2) is⟩
  · exact absurd rfl e
/-- .. defaults of both kinds -/
theorem kb_k (F : FunD K x qual params body scope dvs kws f fd) (n : Nat) (ks : List Str) (ms : List (Str × V)) (is : List Nat) (hd : dvs ≠ []) (hk : kws ≠ []) (hms : ∀ q ∈ ms, q ∈ kws)
    (h : ∀ (T D : Addr) (doc pm : Value) (an : Option Addr) (cdv ct : Value) (us its mv ws : List Value), us.length = n → its.length = dvs.length → mv.length = ms.length → ws.length = ks.length →
      ∃ k, bindArgs (PySem.W.fnOf x qual params body scope (.ref T) (.ref D) doc pm an cdv ct) ⟨us, ks.zip ws⟩ = seqItems? (.ref T) >>= k ∧ KwChain D ((ms.map (·.1)).zip mv) (k (some its.toArray)) (ps.zip (pickL is (us ++ its ++ mv ++ ws)))) :
    ∃ g, KBn K fd ps n ks g (fun vs zs => pickL is (vs ++ dvs ++ ms.map (·.2) ++ zs)) := by
  obtain ⟨its, mv, kb⟩ := F.kbinds n ks ms (fun vs ds mz zs => pickL is (vs ++ ds ++ mz ++ zs)) hd hk hms (fun r1 r2 r3 r4 => vals_pick (((r1.append r2).append r3).append r4) is) h
  exact ⟨_, kb⟩
theorem bnM_k (F : FunD K x qual params body scope dvs kws f fd) (n : Nat) (ks : List Str) (ms : List (Str × V)) (is : List Nat) (dd : List D) (hd : dvs ≠ []) (hk : kws ≠ []) (hms : ∀ q ∈ ms, q ∈ kws) (hr : ∀ F, RpL K ct F dd (dvs ++ ms.map (·.2)))
    (h : ∀ (T D : Addr) (doc pm : Value) (an : Option Addr) (cdv ct : Value) (us its mv ws : List Value), us.length = n + 1 → its.length = dvs.length → mv.length = ms.length → ws.length = ks.length →
      ∃ k, bindArgs (PySem.W.fnOf x qual params body scope (.ref T) (.ref D) doc pm an cdv ct) ⟨us, ks.zip ws⟩ = seqItems? (.ref T) >>= k ∧ KwChain D ((ms.map (·.1)).zip mv) (k (some its.toArray)) (ps.zip (pickL (0 :: is.map (· + 1)) (us ++ its ++ mv ++ ws)))) :
    BnM K ct fd ps n ks (fun ds es => pickL is (ds ++ dd ++ es)) := by
  obtain ⟨g, kb⟩ := kb_k F (n + 1) ks ms (0 :: is.map (· + 1)) hd hk hms h
  refine ⟨g, _, kb, fun F x vs ds zs es r1 r2 => ⟨_, ?_, rpl_pick ((r1.append (hr F)).append r2) is⟩⟩
  have e : pickL (0 :: is.map (· + 1)) (x :: vs ++ dvs ++ ms.map (·.2) ++ zs) = x :: pickL (is.map (· + 1)) (x :: (vs ++ (dvs ++ ms.map (·.2)) ++ zs)) := by
    have e1 : x :: vs ++ dvs ++ ms.map (·.2) ++ zs = x :: (vs ++ (dvs ++ ms.map (·.2)) ++ zs) := by simp
    rw [e1]
    unfold pickL
    rw [List.filterMap_cons_some (b := x) (by simp)]
  rw [e, pick_succ]
end
theorem tk_no {X : Cx} : Takes X (fun _ _ _ _ => False) := fun _ _ ⟨_, _, _, _, _, _, _, _, _, _, _, _, _, _, _, _, w⟩ => w.elim
/-- what the head gives of a module's part -/
structure HyG (fa : List He.Fa) (fn : List He.DefD) (ex : Frag → Bool) (K : Frag) (mg : Str → Option Value) (h : Heap) : Prop where
  kx : K.In h
  ns : h.Ns mainGlobals mg
  says : He.SaysD fa fn K
  ex : ex K = true
section
variable {fa : List He.Fa} {fn : List He.DefD} {ex : Frag → Bool} {K : Frag} {mg : Str → Option Value} {h : Heap}
theorem HyG.free (y : HyG fa fn ex K mg h) (i : Nat) {x : Str} (e : fa[i]? = some (.free x) := by rfl) : mg x = none := He.free_ok y.kx y.ns (y.says.fact i e)
theorem HyG.glo (y : HyG fa fn ex K mg h) (i : Nat) {x : Str} (e : fa[i]? = some (.glo x) := by rfl) : mg x = some (.ref (He.ga K x)) := He.glo_ok y.kx y.ns (y.says.fact i e)
theorem HyG.int_ (y : HyG fa fn ex K mg h) (i : Nat) {x : Str} {k : Int} (e : fa[i]? = some (.int x k) := by rfl) : ∃ t, mg x = some (.int k t) := He.int_ok y.kx y.ns (y.says.fact i e)
theorem HyG.cls_ (y : HyG fa fn ex K mg h) (i : Nat) {x : Str} (e : fa[i]? = some (.cls x) := by rfl) : Cls K (He.ga K x) := He.cls_ok (y.says.fact i e)
theorem HyG.noat (y : HyG fa fn ex K mg h) (i : Nat) {x f : Str} (e : fa[i]? = some (.noat x f) := by rfl) : NoAttr K (He.ga K x) f := He.noat_ok (y.says.fact i e)
theorem HyG.meth (y : HyG fa fn ex K mg h) (i : Nat) {x m : Str} (e : fa[i]? = some (.meth x m) := by rfl) : Meth K (He.ga K x) m (He.ma K (He.ga K x) m) := He.meth_ok (y.says.fact i e)
theorem HyG.mkr (y : HyG fa fn ex K mg h) (i : Nat) {x : Str} (e : fa[i]? = some (.mkr x) := by rfl) : Mk K (He.ga K x) (He.ma K (He.ga K x) "__init__") := He.mkr_ok (y.says.fact i e)
theorem HyG.exc (y : HyG fa fn ex K mg h) (i : Nat) {x : Str} (e : fa[i]? = some (.exc x) := by rfl) : PySem.W.excIn K (He.ga K x) He.veBase "ValueError.__new__" = true ∧ PySem.W.keepIn K (.ref (He.ga K x)) = true ∧ PySem.W.subIn K (.ref (He.ga K x)) (.type "BaseException") = some true ∧ PySem.W.typeIn K (.ref (He.ga K x)) = some (.type "type") := He.exc_ok (y.says.fact i e)
theorem HyG.exm (y : HyG fa fn ex K mg h) (i : Nat) {x z : Str} {b : Bool} (e : fa[i]? = some (.exm x z b) := by rfl) : PySem.W.exmOne K (.ref (He.ga K x)) (.ref (He.ga K z)) = some b := He.exm_ok (y.says.fact i e)
theorem HyG.raises (y : HyG fa fn ex K mg h) {X : Cx} (i : Nat) {x : Str} (e : fa[i]? = some (.exc x) := by rfl) (hK : X.K = K := by rfl) : Raises X (.ref (He.ga K x)) := by
  subst hK
  obtain ⟨_, _, h1, h2⟩ := He.exc_ok (y.says.fact i e)
  exact raises_own h1 h2
end
end G
/-! P0: reckoning with mirrors: loops and comprehensions. -/
namespace G
open PySem PySem.Spec PyProof.Rows L2
theorem forL_inv {g : MG} {b : MS} (I : List D → Env → Prop) (step : ∀ d ds ρ, I (d :: ds) ρ → ∃ ρ1 ρ2, g d ρ = some ρ1 ∧ (b ρ1 = .nx ρ2 ∨ b ρ1 = .ct ρ2) ∧ I ds ρ2) : ∀ {ds : List D} {ρ : Env}, I ds ρ → ∃ ρ', forL g b ds ρ = .nx ρ' ∧ I [] ρ'
  | [], ρ, h => ⟨ρ, rfl, h⟩
  | d :: ds, ρ, h => by
    obtain ⟨ρ1, ρ2, e1, e2, h2⟩ := step d ds ρ h
    obtain ⟨ρ', e3, h3⟩ := forL_inv I step h2
    refine ⟨ρ', ?_, h3⟩
    rcases e2 with e2 | e2 <;> simp only [forL, e1, e2, e3]
theorem wpE_wpE {ρ : Env} : ∀ {vs : List Nat}, wpE (wpE ρ vs) vs = wpE ρ vs := by
  intro vs
  refine List.ext_getElem? fun i => ?_
  by_cases h : i ∈ vs
  · by_cases hl : i < ρ.length
    · have : ∀ (ρ : Env) (vs : List Nat), i ∈ vs → i < ρ.length → (wpE ρ vs)[i]? = some none := by
        intro ρ vs
        induction vs with
        | nil => intro h; cases h
        | cons v vs ih =>
          intro h hl
          unfold wpE
          by_cases e : v = i
          · subst e
            rw [List.getElem?_set_self (by rw [wpE_len]; exact hl)]
          · rw [List.getElem?_set_ne e]
            exact ih (by rcases List.mem_cons.mp h with z | z; exact absurd z.symm e; exact z) hl
      rw [this _ _ h (by rw [wpE_len]; exact hl), this _ _ h hl]
    · rw [List.getElem?_eq_none (by rw [wpE_len, wpE_len]; omega), List.getElem?_eq_none (by rw [wpE_len]; omega)]
  · rw [wpE_out h]
theorem lcT_cong {vs : List Nat} {g : MG} {t : M Bool} {e : M D} {d : D} {ρ ρ' : Env} (h : wpE ρ vs = wpE ρ' vs) : lcT vs g t e d ρ = lcT vs g t e d ρ' := by
  unfold lcT
  rw [h]
theorem rsE_back {ρ ρ' : Env} : ∀ {vs : List Nat}, wpE ρ' vs = wpE ρ vs → rsE ρ' ρ vs = ρ := by
  intro vs h
  have key : ∀ (us : List Nat) (i : Nat), (rsE ρ' ρ us)[i]? = if i ∈ us then (if i < ρ'.length then some (ρ[i]?.getD none) else none) else ρ'[i]? := by
    intro us
    induction us with
    | nil => intro i; simp [rsE]
    | cons v us ih =>
      intro i
      unfold rsE
      by_cases e : v = i
      · subst e
        simp only [List.mem_cons, true_or, if_true]
        by_cases hl : v < ρ'.length
        · rw [List.getElem?_set_self (by rw [rsE_len]; exact hl), if_pos hl]
        · rw [List.getElem?_eq_none (by rw [List.length_set, rsE_len]; omega), if_neg hl]
      · rw [List.getElem?_set_ne e, ih i]
        simp only [List.mem_cons, show (i = v) = False from eq_false fun z => e z.symm, false_or]
  have hlen : ρ'.length = ρ.length := by
    have := congrArg List.length h
    rwa [wpE_len, wpE_len] at this
  refine List.ext_getElem? fun i => ?_
  rw [key]
  by_cases hi : i ∈ vs
  · rw [if_pos hi]
    by_cases hl : i < ρ'.length
    · rw [if_pos hl]
      rw [List.getElem?_eq_getElem (by omega)]
      rfl
    · rw [if_neg hl, List.getElem?_eq_none (by omega)]
  · rw [if_neg hi]
    have := congrArg (fun l => l[i]?) h
    simpa only [wpE_out hi] using this
/-- a comprehension whose clause changes nothing else: what each thing gives -/
theorem lcG_pure {vs : List Nat} {g : MG} {t : M Bool} {e : M D} {f : D → Option D} {ρ : Env} : ∀ {ds acc : List D} {ρ0 : Env}, wpE ρ0 vs = wpE ρ vs → (∀ d ∈ ds, ∃ ρ2, lcT vs g t e d ρ = .ok (f d) ρ2 ∧ wpE ρ2 vs = wpE ρ vs) → acc.length + ds.length ≤ sizeLine →
    ∃ ρ', lcG vs g t e acc ds ρ0 = .ok (acc ++ ds.filterMap f) ρ' ∧ wpE ρ' vs = wpE ρ vs
  | [], acc, ρ0, h0, h, hl => ⟨ρ0, by simp [lcG, M.ret], h0⟩
  | d :: ds, acc, ρ0, h0, h, hl => by
    obtain ⟨ρ2, e1, h2⟩ := h d (List.mem_cons_self ..)
    have e1' : lcT vs g t e d ρ0 = .ok (f d) ρ2 := by rw [lcT_cong h0]; exact e1
    have hl' : acc.length + (ds.length + 1) ≤ sizeLine := by simpa using hl
    cases ef : f d with
    | none =>
      rw [ef] at e1'
      obtain ⟨ρ', e3, h3⟩ := lcG_pure (acc := acc) h2 (fun x hx => h x (List.mem_cons_of_mem _ hx)) (by omega)
      refine ⟨ρ', ?_, h3⟩
      rw [lcG]
      simp only [e1']
      rw [e3, List.filterMap_cons_none ef]
    | some y =>
      rw [ef] at e1'
      obtain ⟨ρ', e3, h3⟩ := lcG_pure (acc := acc ++ [y]) h2 (fun x hx => h x (List.mem_cons_of_mem _ hx)) (by simp; omega)
      refine ⟨ρ', ?_, h3⟩
      rw [lcG]
      simp only [e1']
      rw [if_pos (by omega), e3, List.filterMap_cons_some ef]
      simp
theorem lcA_pure {vs : List Nat} {g : MG} {t : M Bool} {e : M D} (f : D → Option D) {ρ : Env} {ds : List D} (h : ∀ d ∈ ds, ∃ ρ2, lcT vs g t e d ρ = .ok (f d) ρ2 ∧ wpE ρ2 vs = wpE ρ vs) (hl : ds.length ≤ sizeLine) :
    lcA vs g t e ds ρ = .ok (.lst (ds.filterMap f)) ρ := by
  obtain ⟨ρ', e1, h1⟩ := lcG_pure (acc := []) (ρ0 := ρ) rfl h (by simpa using hl)
  unfold lcA
  simp only [e1, List.nil_append, rsE_back h1]
theorem lcA_map {vs : List Nat} {g : MG} {t : M Bool} {e : M D} (f : D → D) {ρ : Env} {ds : List D} (h : ∀ d ∈ ds, ∃ ρ2, lcT vs g t e d ρ = .ok (some (f d)) ρ2 ∧ wpE ρ2 vs = wpE ρ vs) (hl : ds.length ≤ sizeLine) :
    lcA vs g t e ds ρ = .ok (.lst (ds.map f)) ρ := by
  rw [lcA_pure (fun d => some (f d)) h hl]
  congr 2
  induction ds with
  | nil => rfl
  | cons d ds ih => simp
/-- .. that changes something -/
theorem lcG_run {vs : List Nat} {g : MG} {t : M Bool} {e : M D} (I : List D → List D → Env → Prop) (step : ∀ acc d ds ρ, I acc (d :: ds) ρ → ∃ o ρ2, lcT vs g t e d ρ = .ok o ρ2 ∧ (match o with | some y => acc.length < sizeLine ∧ I (acc ++ [y]) ds ρ2 | none => I acc ds ρ2)) :
    ∀ {ds acc : List D} {ρ : Env}, I acc ds ρ → ∃ r ρ', lcG vs g t e acc ds ρ = .ok r ρ' ∧ I r [] ρ'
  | [], acc, ρ, h => ⟨acc, ρ, rfl, h⟩
  | d :: ds, acc, ρ, h => by
    obtain ⟨o, ρ2, e1, h2⟩ := step acc d ds ρ h
    cases o with
    | none =>
      obtain ⟨r, ρ', e3, h3⟩ := lcG_run I step (ds := ds) (acc := acc) h2
      exact ⟨r, ρ', by rw [lcG]; simp only [e1]; exact e3, h3⟩
    | some y =>
      obtain ⟨r, ρ', e3, h3⟩ := lcG_run I step (ds := ds) (acc := acc ++ [y]) h2.2
      exact ⟨r, ρ', by rw [lcG]; simp only [e1]; rw [if_pos h2.1]; exact e3, h3⟩
theorem lcA_run {vs : List Nat} {g : MG} {t : M Bool} {e : M D} (I : List D → List D → Env → Prop) (step : ∀ acc d ds ρ, I acc (d :: ds) ρ → ∃ o ρ2, lcT vs g t e d ρ = .ok o ρ2 ∧ (match o with | some y => acc.length < sizeLine ∧ I (acc ++ [y]) ds ρ2 | none => I acc ds ρ2))
    {ds : List D} {ρ : Env} (h : I [] ds ρ) : ∃ r ρ', lcA vs g t e ds ρ = .ok (.lst r) (rsE ρ' ρ vs) ∧ I r [] ρ' := by
  obtain ⟨r, ρ', e1, h1⟩ := lcG_run I step h
  exact ⟨r, ρ', by unfold lcA; simp only [e1], h1⟩
end G
/-! P0b: operations on plain data. -/
namespace G
open PySem PySem.Spec PyProof.Rows L2
theorem lt_ii (i j : Int) : dLt (.int i) (.int j) = some (.bl (decide (i < j))) := by
  simp [dLt, dDat, toPy, gCmp, lowD, isNn, PySem.W.alike, PyData.depth, PySem.W.dataLt_int]
theorem gt_ii (i j : Int) : dGt (.int i) (.int j) = some (.bl (decide (j < i))) := by
  simp [dGt, dDat, toPy, gCmp, lowD, isNn, PySem.W.alike, PyData.depth, PySem.W.dataLt_int]
theorem le_ii (i j : Int) : dLe (.int i) (.int j) = some (.bl (decide (i ≤ j))) := by
  simp [dLe, dDat, toPy, gCmp, lowD, isNn, PySem.W.alike, PyData.depth, PySem.W.dataLt_int]
  by_cases h : i ≤ j
  · simp [h, Int.not_lt.mpr h]
  · simp [h, Int.not_le.mp h]
theorem ge_ii (i j : Int) : dGe (.int i) (.int j) = some (.bl (decide (j ≤ i))) := by
  simp [dGe, dDat, toPy, gCmp, lowD, isNn, PySem.W.alike, PyData.depth, PySem.W.dataLt_int]
  by_cases h : j ≤ i
  · simp [h, Int.not_lt.mpr h]
  · simp [h, Int.not_le.mp h]
theorem eq_ii (i j : Int) : dEq (.int i) (.int j) = some (.bl (decide (i = j))) := by
  simp [dEq, dDat, toPy, gEq, lowD, PyData.depth, PyData.eqv]
  rfl
theorem ne_ii (i j : Int) : dNe (.int i) (.int j) = some (.bl (!decide (i = j))) := by
  simp [dNe, dDat, toPy, gEq, lowD, PyData.depth, PyData.eqv]
  rfl
theorem add_ii (i j : Int) : dAdd (.int i) (.int j) = some (.int (i + j)) := rfl
theorem sub_ii (i j : Int) : dSub (.int i) (.int j) = some (.int (i - j)) := by simp [dSub, dInt, CTrue]
theorem mul_ii {i j : Int} (h : CMul i j) : dMul (.int i) (.int j) = some (.int (i * j)) := by simp [dMul, h]
theorem md_ii {i j : Int} (h : j ≠ 0) : dMd (.int i) (.int j) = some (.int (i.fmod j)) := by simp [dMd, dInt, h]
theorem fd_ii {i j : Int} (h : CDivN i j) : dFd (.int i) (.int j) = some (.int (i.fdiv j)) := by simp [dFd, dInt, h]
theorem dm_ii {i j : Int} (h : CDiv i j) : dDm [.int i, .int j] = some (.tup [.int (i / j), .int (i % j)]) := by simp [dDm, h]
theorem fmod_b {i j : Int} (h : 0 < j) : 0 ≤ i.fmod j ∧ i.fmod j < j := ⟨Int.fmod_nonneg_of_pos _ h, Int.fmod_lt_of_pos _ h⟩
theorem cmul_l {i j : Int} (h0 : -1000000000000000000 ≤ i) (h : i ≤ 1000000000000000000) : CMul i j := .inl ⟨by omega, by omega⟩
theorem cmul_r {i j : Int} (h0 : -1000000000000000000 ≤ j) (h : j ≤ 1000000000000000000) : CMul i j := .inr ⟨by omega, by omega⟩
/-! evaluating -/
theorem sq_nx {a b : MS} {ρ ρ' : Env} (h : a ρ = .nx ρ') : MS.sq a b ρ = b ρ' := by simp only [MS.sq, h]
theorem sq_rt {a b : MS} {ρ ρ' : Env} {d : D} (h : a ρ = .rt d ρ') : MS.sq a b ρ = .rt d ρ' := by simp only [MS.sq, h]
theorem if_t {c : M Bool} {a b : MS} {ρ ρ' : Env} (h : c ρ = .ok true ρ') : mIfS c a b ρ = a ρ' := by simp only [mIfS, MS.of, h, if_true]
theorem if_f {c : M Bool} {a b : MS} {ρ ρ' : Env} (h : c ρ = .ok false ρ') : mIfS c a b ρ = b ρ' := by
  simp only [mIfS, MS.of, h]
  rfl
theorem set_ok {i : Nat} {m : M D} {d : D} {ρ ρ' : Env} (h : m ρ = .ok d ρ') : mSet i m ρ = .nx (ρ'.set i (some d)) := by simp only [mSet, MS.of, h]
theorem ret_ok {m : M D} {d : D} {ρ ρ' : Env} (h : m ρ = .ok d ρ') : mRet m ρ = .rt d ρ' := by simp only [mRet, MS.of, h]
theorem b_ok {α β : Type} {m : M α} {f : α → M β} {a : α} {ρ ρ' : Env} (h : m ρ = .ok a ρ') : m.bind f ρ = f a ρ' := by simp only [M.bind, h]
theorem m2_ok {f : D → D → Option D} {a b : M D} {x y z : D} {ρ ρ1 ρ2 : Env} (h1 : a ρ = .ok x ρ1) (h2 : b ρ1 = .ok y ρ2) (h3 : f x y = some z) : m2 f a b ρ = .ok z ρ2 := by simp only [m2, M.bind, h1, h2, h3, M.opt]
theorem m1_ok {f : D → Option D} {a : M D} {x z : D} {ρ ρ1 : Env} (h1 : a ρ = .ok x ρ1) (h3 : f x = some z) : m1 f a ρ = .ok z ρ1 := by simp only [m1, M.bind, h1, h3, M.opt]
theorem mB_ok {a : M D} {b : Bool} {ρ ρ1 : Env} (h1 : a ρ = .ok (.bl b) ρ1) : mB a ρ = .ok b ρ1 := by simp only [mB, M.bind, h1, dBl, M.opt]
theorem mT_ok {a : M D} {d : D} {b : Bool} {ρ ρ1 : Env} (h1 : a ρ = .ok d ρ1) (h2 : dTru d = some b) : mT a ρ = .ok b ρ1 := by simp only [mT, M.bind, h1, h2, M.opt]
theorem cons_ok {a : M D} {r : M (List D)} {d : D} {ds : List D} {ρ ρ1 ρ2 : Env} (h1 : a ρ = .ok d ρ1) (h2 : r ρ1 = .ok ds ρ2) : mCons a r ρ = .ok (d :: ds) ρ2 := by simp only [mCons, M.bind, h1, h2, M.ret]
theorem lst_ok {a : M (List D)} {ds : List D} {ρ ρ1 : Env} (h1 : a ρ = .ok ds ρ1) (h2 : ds.length ≤ sizeLine) : mLst a ρ = .ok (.lst ds) ρ1 := by simp only [mLst, M.bind, h1, h2, if_true, M.opt]
theorem tup_ok {a : M (List D)} {ds : List D} {ρ ρ1 : Env} (h1 : a ρ = .ok ds ρ1) (h2 : ds.length ≤ sizeLine) : mTup a ρ = .ok (.tup ds) ρ1 := by simp only [mTup, M.bind, h1, h2, if_true, M.opt]
theorem a_ok {f : List D → Option D} {a : M (List D)} {ds : List D} {z : D} {ρ ρ1 : Env} (h1 : a ρ = .ok ds ρ1) (h2 : f ds = some z) : mA f a ρ = .ok z ρ1 := by simp only [mA, M.bind, h1, h2, M.opt]
theorem exp_ok {a : M D} {d : D} {ρ ρ1 : Env} (h1 : a ρ = .ok d ρ1) : mExp a ρ = .nx ρ1 := by simp only [mExp, MS.of, h1]
theorem nil_ok {ρ : Env} : mNil ρ = .ok [] ρ := rfl
theorem sq_ok {a b : MS} {ρ ρ' : Env} {r : SR} (h : a ρ = .nx ρ') (h2 : b ρ' = r) : MS.sq a b ρ = r := by rw [sq_nx h, h2]
theorem ml_ok {i : Nat} {h : D → List D → Option (D × D)} {ms : M (List D)} {ds : List D} {xs : List D} {z d' : D} {ρ ρ1 : Env} (e1 : ρ[i]? = some (some (.lst xs))) (e2 : ms ρ = .ok ds ρ1) (e3 : ρ1[i]? = some (some (.lst xs))) (e4 : h (.lst xs) ds = some (z, d')) : mMl i h ms ρ = .ok z (ρ1.set i (some d')) := by
  simp only [mMl, e1, isLst, if_true, mMt, mV, M.bind, e2, e3, e4]
end G
/-! T0: typed programs, and how a mirror follows one. -/
namespace G
open PySem PySem.Spec PyProof.Rows L2
/-- the outcome of a typed program: a value, an exception, nothing known -/
inductive O (α : Type) where
  | ok (a : α) | er (x : Ex) | no
namespace O
def bind {α β : Type} (m : O α) (f : α → O β) : O β := match m with
  | .ok a => f a
  | .er x => .er x
  | .no => .no
@[simp] theorem ok_bind {α β : Type} (a : α) (f : α → O β) : (O.ok a).bind f = f a := rfl
@[simp] theorem er_bind {α β : Type} (x : Ex) (f : α → O β) : (O.er x : O α).bind f = .er x := rfl
@[simp] theorem no_bind {α β : Type} (f : α → O β) : (O.no : O α).bind f = .no := rfl
theorem bind_assoc {α β γ : Type} (m : O α) (f : α → O β) (g : β → O γ) : (m.bind f).bind g = m.bind fun a => (f a).bind g := by cases m <;> rfl
end O
class Rz (R : Type) where
  er : Ex → Env → R
  no : R
instance {α : Type} : Rz (Rs α) := ⟨.er, .no⟩
instance : Rz SR := ⟨.er, .no⟩
def sqR {α R : Type} [Rz R] (r : Rs α) (k : α → Env → R) : R := match r with
  | .ok a ρ => k a ρ
  | .er x ρ => Rz.er x ρ
  | .no => Rz.no
def sqS (r : SR) (k : Env → SR) : SR := match r with
  | .nx ρ => k ρ
  | r => r
/-- the mirror's outcome follows the typed program's -/
def SmB {R β : Type} [Rz R] (E : Env → Prop) (P : β → R → Prop) (r : R) (t : O β) : Prop := match t with
  | .ok b => P b r
  | .er x => ∃ ρ, r = Rz.er x ρ ∧ E ρ
  | .no => True
@[irreducible] def Sm {R β : Type} [Rz R] (E : Env → Prop) (P : β → R → Prop) (r : R) (t : O β) : Prop := SmB E P r t
section
variable {R β α γ δ : Type} [Rz R] {E : Env → Prop} {P : β → R → Prop} {t : O β} {ρ : Env}
theorem Sm.pu {r : Rs α} {k : α → Env → R} {a : α} {ρ' : Env} (h : r = .ok a ρ') (q : Sm E P (k a ρ') t) : Sm E P (sqR r k) t := by subst h; exact q
theorem Sm.bd {r : Rs α} {k : α → Env → R} {t1 : O γ} {f : γ → α} {g : γ → Env} {t2 : γ → O β} (h : Sm E (fun b r => r = .ok (f b) (g b)) r t1) (q : ∀ b, Sm E P (k (f b) (g b)) (t2 b)) : Sm E P (sqR r k) (t1.bind t2) := by
  unfold Sm SmB at *
  try unfold FSm at *
  cases t1 with
  | ok b => rw [show r = _ from h]; exact q b
  | er x => obtain ⟨ρ, e, h⟩ := h; rw [e]; exact ⟨ρ, rfl, h⟩
  | no => trivial
theorem sqR_bind {m : M α} {f : α → M γ} {k : γ → Env → R} : sqR (m.bind f ρ) k = sqR (m ρ) fun a ρ1 => sqR (f a ρ1) k := by
  unfold M.bind sqR
  cases m ρ <;> rfl
theorem Sm.asc {m : M α} {f : α → M γ} {k : γ → Env → R} (q : Sm E P (sqR (m ρ) fun a ρ1 => sqR (f a ρ1) k) t) : Sm E P (sqR (m.bind f ρ) k) t := by rw [sqR_bind]; exact q
def Os {δ γ : Type} (o : Option δ) (f : γ → δ) (t : O γ) : Prop := match t with
  | .ok b => o = some (f b)
  | .er _ => False
  | .no => True
theorem Sm.op {o : Option δ} {f : γ → δ} {t1 : O γ} {t2 : γ → O β} {k : δ → Env → R} (h : Os o f t1) (q : ∀ b, Sm E P (k (f b) ρ) (t2 b)) : Sm E P (sqR (M.opt o ρ) k) (t1.bind t2) := by
  unfold Sm SmB at *
  try unfold FSm at *
  cases t1 with
  | ok b => rw [show o = _ from h]; exact q b
  | er x => exact h.elim
  | no => trivial
theorem Sm.opp {o : Option δ} {d : δ} {k : δ → Env → R} (h : o = some d) (q : Sm E P (k d ρ) t) : Sm E P (sqR (M.opt o ρ) k) t := by subst h; exact q
theorem Sm.rt {a : α} {k : α → Env → R} (q : Sm E P (k a ρ) t) : Sm E P (sqR (M.ret a ρ) k) t := q
theorem Sm.done {r : R} {b : β} (h : P b r) : Sm E P r (.ok b) := by
  unfold Sm SmB
  exact h
theorem Sm.nil {r : R} : Sm E P r (O.no : O β) := by
  unfold Sm SmB
  trivial
/-- a pure value, named -/
theorem Sm.pv {r : Rs α} {k : α → Env → R} {f : γ → α} {a : γ} {ρ' : Env} {t2 : γ → O β} (h : r = .ok (f a) ρ') (q : ∀ b, Sm E P (k (f b) ρ') (t2 b)) : Sm E P (sqR r k) ((O.ok a).bind t2) := by subst h; exact q a
theorem okc {r : Rs α} {a b : α} {ρ' : Env} (h : r = .ok a ρ') (e : a = b) : r = .ok b ρ' := by subst e; exact h
/-- a datum of an unknown kind is taken as of one -/
theorem Sm.cast {r : Rs D} {k : D → Env → R} {ρ' : Env} {d : D} {c : D → O γ} {e : γ → D} {t2 : γ → O β} (h : r = .ok d ρ') (hc : ∀ d x, c d = .ok x → d = e x) (he : ∀ d x, c d ≠ .er x) (q : ∀ x, Sm E P (k (e x) ρ') (t2 x)) : Sm E P (sqR r k) ((c d).bind t2) := by
  unfold Sm SmB at *
  try unfold FSm at *
  subst h
  cases h : c d with
  | ok x =>
    have e := hc d x h
    subst e
    exact q x
  | er x => exact (he d x h).elim
  | no => trivial
/-! ### expressions -/
theorem Sm.m1 {f : D → Option D} {a : M D} {k : D → Env → R} (q : Sm E P (sqR (a ρ) fun x ρ1 => sqR (M.opt (f x) ρ1) k) t) : Sm E P (sqR (m1 f a ρ) k) t := by unfold G.m1; rw [sqR_bind]; exact q
theorem Sm.m2 {f : D → D → Option D} {a b : M D} {k : D → Env → R} (q : Sm E P (sqR (a ρ) fun x ρ1 => sqR (b ρ1) fun y ρ2 => sqR (M.opt (f x y) ρ2) k) t) : Sm E P (sqR (m2 f a b ρ) k) t := by unfold G.m2; simp only [sqR_bind]; exact q
theorem Sm.m2L {f : D → D → Option D} {i : Nat} {b : M D} {k : D → Env → R} (q : Sm E P (sqR (mV i ρ) fun _ ρ1 => sqR (b ρ1) fun y ρ2 => sqR (mV i ρ2) fun x ρ3 => sqR (M.opt (f x y) ρ3) k) t) : Sm E P (sqR (m2L f i b ρ) k) t := by unfold G.m2L; simp only [sqR_bind]; exact q
theorem Sm.mA {f : List D → Option D} {a : M (List D)} {k : D → Env → R} (q : Sm E P (sqR (a ρ) fun x ρ1 => sqR (M.opt (f x) ρ1) k) t) : Sm E P (sqR (mA f a ρ) k) t := by unfold G.mA; rw [sqR_bind]; exact q
theorem Sm.mB {a : M D} {k : Bool → Env → R} (q : Sm E P (sqR (a ρ) fun x ρ1 => sqR (M.opt (dBl x) ρ1) k) t) : Sm E P (sqR (mB a ρ) k) t := by unfold G.mB; rw [sqR_bind]; exact q
theorem Sm.mT {a : M D} {k : Bool → Env → R} (q : Sm E P (sqR (a ρ) fun x ρ1 => sqR (M.opt (dTru x) ρ1) k) t) : Sm E P (sqR (mT a ρ) k) t := by unfold G.mT; rw [sqR_bind]; exact q
theorem Sm.mNot {a : M Bool} {k : Bool → Env → R} (q : Sm E P (sqR (a ρ) fun x ρ1 => k (!x) ρ1) t) : Sm E P (sqR (mNot a ρ) k) t := by unfold G.mNot; rw [sqR_bind]; exact q
theorem Sm.mCons {a : M D} {b : M (List D)} {k : List D → Env → R} (q : Sm E P (sqR (a ρ) fun x ρ1 => sqR (b ρ1) fun y ρ2 => k (x :: y) ρ2) t) : Sm E P (sqR (mCons a b ρ) k) t := by unfold G.mCons; simp only [sqR_bind]; exact q
theorem Sm.mTup {a : M (List D)} {k : D → Env → R} (q : Sm E P (sqR (a ρ) fun x ρ1 => sqR (M.opt (if x.length ≤ sizeLine then some (.tup x) else none) ρ1) k) t) : Sm E P (sqR (mTup a ρ) k) t := by unfold G.mTup; rw [sqR_bind]; exact q
theorem Sm.mLst {a : M (List D)} {k : D → Env → R} (q : Sm E P (sqR (a ρ) fun x ρ1 => sqR (M.opt (if x.length ≤ sizeLine then some (.lst x) else none) ρ1) k) t) : Sm E P (sqR (mLst a ρ) k) t := by unfold G.mLst; rw [sqR_bind]; exact q
theorem Sm.mIt {a : M D} {k : List D → Env → R} (q : Sm E P (sqR (a ρ) fun x ρ1 => sqR (M.opt (dIt x) ρ1) k) t) : Sm E P (sqR (mIt a ρ) k) t := by unfold G.mIt; rw [sqR_bind]; exact q
theorem Sm.mRg1 {a : M (List D)} {k : List D → Env → R} (q : Sm E P (sqR (a ρ) fun x ρ1 => sqR (M.opt (dRng1 x) ρ1) k) t) : Sm E P (sqR (mRg1 a ρ) k) t := by unfold G.mRg1; rw [sqR_bind]; exact q
theorem Sm.mRg2 {a : M (List D)} {k : List D → Env → R} (q : Sm E P (sqR (a ρ) fun x ρ1 => sqR (M.opt (dRng2 x) ρ1) k) t) : Sm E P (sqR (mRg2 a ρ) k) t := by unfold G.mRg2; rw [sqR_bind]; exact q
theorem Sm.mEn {a : M (List D)} {k : List D → Env → R} (q : Sm E P (sqR (a ρ) fun x ρ1 => sqR (M.opt ((d1Sq x).map enD) ρ1) k) t) : Sm E P (sqR (mEn a ρ) k) t := by unfold G.mEn; rw [sqR_bind]; exact q
theorem Sm.mZp {a : M (List D)} {k : List D → Env → R} (q : Sm E P (sqR (a ρ) fun x ρ1 => sqR (M.opt (dZp x) ρ1) k) t) : Sm E P (sqR (mZp a ρ) k) t := by unfold G.mZp; rw [sqR_bind]; exact q
theorem Sm.mPt {a : M D} {k : Option Int → Env → R} (q : Sm E P (sqR (a ρ) fun x ρ1 => sqR (M.opt (dI x) ρ1) k) t) : Sm E P (sqR (mPt a ρ) k) t := by unfold G.mPt; rw [sqR_bind]; exact q
theorem Sm.mSl {a : M D} {l h : M (Option Int)} {k : D → Env → R} (q : Sm E P (sqR (a ρ) fun x ρ1 => sqR (l ρ1) fun y ρ2 => sqR (h ρ2) fun z ρ3 => sqR (M.opt (dSl x y z) ρ3) k) t) : Sm E P (sqR (mSl a l h ρ) k) t := by unfold G.mSl; simp only [sqR_bind]; exact q
theorem Sm.mSlL {i : Nat} {l h : M (Option Int)} {k : D → Env → R} (q : Sm E P (sqR (mV i ρ) fun _ ρ1 => sqR (l ρ1) fun y ρ2 => sqR (h ρ2) fun z ρ3 => sqR (mV i ρ3) fun x ρ4 => sqR (M.opt (dSl x y z) ρ4) k) t) : Sm E P (sqR (mSlL i l h ρ) k) t := by unfold G.mSlL; simp only [sqR_bind]; exact q
def joK (b : M D) (x : D) : M D := match x with
  | .str _ => b.bind fun y => M.opt (dJo x y)
  | _ => M.opt none
theorem Sm.mJo {a b : M D} {k : D → Env → R} (q : Sm E P (sqR (a ρ) fun x ρ1 => sqR (joK b x ρ1) k) t) : Sm E P (sqR (mJo a b ρ) k) t := by unfold G.mJo; rw [sqR_bind]; exact q
theorem Sm.joK {x : Str} {b : M D} {k : D → Env → R} (q : Sm E P (sqR (b ρ) fun y ρ1 => sqR (M.opt (dJo (.str x) y) ρ1) k) t) : Sm E P (sqR (joK b (.str x) ρ) k) t := by unfold G.joK; rw [sqR_bind]; exact q
def chK (g : D → D → Option D) (c : M D) (y : D) (d : D) : M D := match d with
  | .bl k => if k = true then c.bind fun z => M.opt (g y z) else M.ret (.bl false)
  | _ => M.opt none
theorem Sm.mCh {f g : D → D → Option D} {a b c : M D} {k : D → Env → R} (q : Sm E P (sqR (a ρ) fun x ρ1 => sqR (b ρ1) fun y ρ2 => sqR (M.opt (f x y) ρ2) fun d ρ3 => sqR (chK g c y d ρ3) k) t) : Sm E P (sqR (mCh f g a b c ρ) k) t := by unfold G.mCh; simp only [sqR_bind]; exact q
/-- the second part of a chain -/
theorem Sm.chK {g : D → D → Option D} {c : M D} {y : D} {x : Bool} {Q : γ → Rs D → Prop} {t1 : O γ} {b0 : γ} (ht : x = true → Sm E Q (sqR (c ρ) fun z ρ1 => M.opt (g y z) ρ1) t1) (hf : Q b0 (.ok (.bl false) ρ)) : Sm E Q (G.chK g c y (.bl x) ρ) (if x = true then t1 else .ok b0) := by
  cases x with
  | true => exact ht rfl
  | false => exact Sm.done hf
def andK (b : M D) (d : D) : M D := match d with
  | .bl c => if c = true then b else M.ret (.bl false)
  | _ => M.opt none
def orK (b : M D) (d : D) : M D := match d with
  | .bl c => if c = true then M.ret (.bl true) else b
  | _ => M.opt none
theorem Sm.mAndV {a b : M D} {k : D → Env → R} (q : Sm E P (sqR (a ρ) fun d ρ1 => sqR (andK b d ρ1) k) t) : Sm E P (sqR (mAndV a b ρ) k) t := by unfold G.mAndV; rw [sqR_bind]; exact q
theorem Sm.mOrV {a b : M D} {k : D → Env → R} (q : Sm E P (sqR (a ρ) fun d ρ1 => sqR (orK b d ρ1) k) t) : Sm E P (sqR (mOrV a b ρ) k) t := by unfold G.mOrV; rw [sqR_bind]; exact q
theorem Sm.andK {b : M D} {x : Bool} {Q : γ → Rs D → Prop} {t1 : O γ} {b0 : γ} (ht : x = true → Sm E Q (b ρ) t1) (hf : Q b0 (.ok (.bl false) ρ)) : Sm E Q (G.andK b (.bl x) ρ) (if x = true then t1 else .ok b0) := by
  cases x with
  | true => exact ht rfl
  | false => exact Sm.done hf
theorem Sm.orK {b : M D} {x : Bool} {Q : γ → Rs D → Prop} {t1 : O γ} {b0 : γ} (hf : x = false → Sm E Q (b ρ) t1) (ht : Q b0 (.ok (.bl true) ρ)) : Sm E Q (G.orK b (.bl x) ρ) (if x = true then .ok b0 else t1) := by
  cases x with
  | true => exact Sm.done ht
  | false => exact hf rfl
def andB (b : M Bool) (c : Bool) : M Bool := if c = true then b else M.ret false
def orB (b : M Bool) (c : Bool) : M Bool := if c = true then M.ret true else b
theorem Sm.mAnd {a b : M Bool} {k : Bool → Env → R} (q : Sm E P (sqR (a ρ) fun d ρ1 => sqR (andB b d ρ1) k) t) : Sm E P (sqR (mAnd a b ρ) k) t := by unfold G.mAnd; rw [sqR_bind]; exact q
theorem Sm.mOr {a b : M Bool} {k : Bool → Env → R} (q : Sm E P (sqR (a ρ) fun d ρ1 => sqR (orB b d ρ1) k) t) : Sm E P (sqR (mOr a b ρ) k) t := by unfold G.mOr; rw [sqR_bind]; exact q
theorem Sm.andB {b : M Bool} {x : Bool} {Q : γ → Rs Bool → Prop} {t1 : O γ} {b0 : γ} (ht : x = true → Sm E Q (b ρ) t1) (hf : Q b0 (.ok false ρ)) : Sm E Q (G.andB b x ρ) (if x = true then t1 else .ok b0) := by
  cases x with
  | true => exact ht rfl
  | false => exact Sm.done hf
theorem Sm.orB {b : M Bool} {x : Bool} {Q : γ → Rs Bool → Prop} {t1 : O γ} {b0 : γ} (hf : x = false → Sm E Q (b ρ) t1) (ht : Q b0 (.ok true ρ)) : Sm E Q (G.orB b x ρ) (if x = true then .ok b0 else t1) := by
  cases x with
  | true => exact Sm.done ht
  | false => exact hf rfl
def ifK (a b : M D) (c : Bool) : M D := if c = true then a else b
theorem Sm.mIf {c : M Bool} {a b : M D} {k : D → Env → R} (q : Sm E P (sqR (c ρ) fun d ρ1 => sqR (ifK a b d ρ1) k) t) : Sm E P (sqR (mIf c a b ρ) k) t := by unfold G.mIf; rw [sqR_bind]; exact q
theorem Sm.ifK {a b : M D} {x : Bool} {Q : γ → Rs D → Prop} {t1 t2 : O γ} (ht : x = true → Sm E Q (a ρ) t1) (hf : x = false → Sm E Q (b ρ) t2) : Sm E Q (G.ifK a b x ρ) (if x = true then t1 else t2) := by
  cases x with
  | true => exact ht rfl
  | false => exact hf rfl
/-- a part of an expression by itself -/
theorem Sm.ex {r : Rs α} {Q : γ → Rs α → Prop} {t1 : O γ} (q : Sm E Q (sqR r fun a ρ => .ok a ρ) t1) : Sm E Q r t1 := by
  have : sqR r (fun a ρ => .ok a ρ) = r := by cases r <;> rfl
  rw [this] at q
  exact q
/-! texts put together -/
def jsK (ms : List (M D)) (acc : Str) (d : D) : M Str := match d with
  | .str y => if (acc ++ y).length ≤ sizeLine then mJs ms (acc ++ y) else M.opt none
  | _ => M.opt none
/-- x + y of texts -/
def catS (x y : Str) : O Str := if (x ++ y).length ≤ sizeLine then .ok (x ++ y) else .no
theorem Sm.mJn {ms : List (M D)} {k : D → Env → R} (q : Sm E P (sqR (mJs ms Str.empty ρ) fun y ρ1 => k (.str y) ρ1) t) : Sm E P (sqR (mJn ms ρ) k) t := by unfold G.mJn; rw [sqR_bind]; exact q
theorem Sm.js_c {m : M D} {ms : List (M D)} {acc : Str} {k : Str → Env → R} (q : Sm E P (sqR (m ρ) fun d ρ1 => sqR (jsK ms acc d ρ1) k) t) : Sm E P (sqR (mJs (m :: ms) acc ρ) k) t := by unfold mJs; rw [sqR_bind]; exact q
theorem Sm.js_s {ms : List (M D)} {acc y : Str} {k : Str → Env → R} {t2 : Str → O β} (q : ∀ a, Sm E P (sqR (mJs ms a ρ) k) (t2 a)) : Sm E P (sqR (jsK ms acc (.str y) ρ) k) ((catS acc y).bind t2) := by
  unfold catS jsK
  simp only
  split
  · exact q _
  · exact Sm.nil
theorem Sm.js_n {acc : Str} {k : Str → Env → R} (q : Sm E P (k acc ρ) t) : Sm E P (sqR (mJs [] acc ρ) k) t := q
end
/-! ### calls -/
section
variable {R β α γ δ : Type} [Rz R] {E : Env → Prop} {P : β → R → Prop} {t : O β} {ρ : Env}
/-- a def's mirror follows a typed program -/
@[irreducible] def FSm (MF : MFn) (ds : List D) (f : γ → D) (o : γ → List D) (t : O γ) : Prop := match t with
  | .ok b => MF ds = .ok (f b) (o b)
  | .er x => ∃ outs, MF ds = .er x outs
  | .no => True
/-- how a body ends -/
def RT {γ : Type} (f : γ → D) (o : γ → List D) (ix : List Nat) (b : γ) (r : SR) : Prop := ∃ ρ, r = .rt (f b) ρ ∧ outsE ρ ix = o b
def RN {γ : Type} (f : γ → D) (o : γ → List D) (ix : List Nat) (b : γ) (r : SR) : Prop := ∃ ρ, (r = .rt (f b) ρ ∨ (r = .nx ρ ∧ f b = .non)) ∧ outsE ρ ix = o b
theorem FSm.mk {n : Nat} {ks : List Kd} {ro : Bool} {b : MS} {ds : List D} {f : γ → D} {o : γ → List D} {t : O γ} (h : Sm (fun _ => True) (RT f o (ioIx ks 0)) (b (stE n ds)) t) : FSm (mFn n ks ro b) ds f o t := by
  unfold Sm SmB at *
  try unfold FSm at *
  cases t with
  | ok v =>
    obtain ⟨ρ, e, h⟩ := h
    show mFn n ks ro b ds = _
    unfold mFn
    rw [e, ← h]
  | er x =>
    obtain ⟨ρ, e, _⟩ := h
    exact ⟨outsE ρ (ioIx ks 0), by unfold mFn; rw [e]; rfl⟩
  | no => trivial
theorem FSm.mkN {n : Nat} {ks : List Kd} {b : MS} {ds : List D} {f : γ → D} {o : γ → List D} {t : O γ} (h : Sm (fun _ => True) (RN f o (ioIx ks 0)) (b (stE n ds)) t) : FSm (mFn n ks false b) ds f o t := by
  unfold Sm SmB at *
  try unfold FSm at *
  cases t with
  | ok v =>
    obtain ⟨ρ, e, h⟩ := h
    show mFn n ks false b ds = _
    unfold mFn
    rcases e with e | ⟨e, e2⟩
    · rw [e, ← h]
    · rw [e, ← h, e2]
      rfl
  | er x =>
    obtain ⟨ρ, e, _⟩ := h
    exact ⟨outsE ρ (ioIx ks 0), by unfold mFn; rw [e]; rfl⟩
  | no => trivial
/-- frozen arguments -/
def ckK (n m k : Nat) (gD : List D → List D → List D) (MF : MFn) (ds es : List D) : M D := if ds.length = n ∧ es.length = m ∧ (gD ds es).length = k then frM (MF (gD ds es)) else M.opt none
theorem Sm.mCkd {n m l : Nat} {gD : List D → List D → List D} {MF : MFn} {a b : M (List D)} {k : D → Env → R} (q : Sm E P (sqR (a ρ) fun ds ρ1 => sqR (b ρ1) fun es ρ2 => sqR (ckK n m l gD MF ds es ρ2) k) t) : Sm E P (sqR (mCkd n m l gD MF a b ρ) k) t := by unfold G.mCkd; simp only [sqR_bind]; exact q
theorem Sm.frM {MF : MFn} {ds : List D} {k : D → Env → R} {f : γ → D} {o : γ → List D} {t1 : O γ} {t2 : γ → O β} (hE : E ρ) (h : FSm MF ds f o t1) (q : ∀ b, Sm E P (k (f b) ρ) (t2 b)) : Sm E P (sqR (frM (MF ds) ρ) k) (t1.bind t2) := by
  unfold Sm SmB at *
  try unfold FSm at *
  cases t1 with
  | ok b => rw [show MF ds = _ from h]; exact q b
  | er x => obtain ⟨o, e⟩ := h; rw [e]; exact ⟨ρ, rfl, hE⟩
  | no => trivial
theorem Sm.ckK {n m l : Nat} {gD : List D → List D → List D} {MF : MFn} {ds es us : List D} {k : D → Env → R} {f : γ → D} {o : γ → List D} {t1 : O γ} {t2 : γ → O β} (h : FSm MF us f o t1) (hg : ds.length = n ∧ es.length = m ∧ us.length = l) (hu : gD ds es = us) (hE : E ρ) (q : ∀ b, Sm E P (k (f b) ρ) (t2 b)) : Sm E P (sqR (G.ckK n m l gD MF ds es ρ) k) (t1.bind t2) := by
  unfold G.ckK
  rw [hu, if_pos hg]
  exact Sm.frM hE h q
/-- arguments that are changed -/
def chH (sh : List Ah) (MF : MFn) (fs : List D) : M D := fun ρ => match asmA ρ sh fs with
  | none => .no
  | some ds => match MF ds with
    | .ok d outs => .ok d (putA ρ sh outs)
    | .er x outs => .er x (putA ρ sh outs)
    | .no => .no
theorem Sm.mCallH {sh : List Ah} {MF : MFn} {a : M (List D)} {k : D → Env → R} (q : Sm E P (sqR (a ρ) fun ds ρ1 => sqR (chH sh MF ds ρ1) k) t) : Sm E P (sqR (mCallH sh MF a ρ) k) t := by unfold G.mCallH; rw [sqR_bind]; exact q
theorem Sm.chH {sh : List Ah} {MF : MFn} {fs ds : List D} {k : D → Env → R} {f : γ → D} {o : γ → List D} {t1 : O γ} {t2 : γ → O β} (h : FSm MF ds f o t1) (ha : asmA ρ sh fs = some ds) (hE : ∀ outs, E (putA ρ sh outs)) (q : ∀ b, Sm E P (k (f b) (putA ρ sh (o b))) (t2 b)) : Sm E P (sqR (G.chH sh MF fs ρ) k) (t1.bind t2) := by
  unfold Sm SmB at *
  try unfold FSm at *
  unfold G.chH
  rw [ha]
  cases t1 with
  | ok b =>
    have e : MF ds = _ := h
    simp only [e]
    exact q b
  | er x =>
    obtain ⟨o, e⟩ := h
    simp only [e]
    exact ⟨_, rfl, hE _⟩
  | no => trivial
/-- new instances -/
def mkK (c n m k : Nat) (gD : List D → List D → List D) (MF : MFn) (ds es : List D) : M D := if ds.length = n ∧ es.length = m ∧ (gD ds es).length = k then mkR (MF (.obj c [] :: gD ds es)) else M.opt none
theorem Sm.mMk {c n m l : Nat} {gD : List D → List D → List D} {MF : MFn} {a b : M (List D)} {k : D → Env → R} (q : Sm E P (sqR (a ρ) fun ds ρ1 => sqR (b ρ1) fun es ρ2 => sqR (mkK c n m l gD MF ds es ρ2) k) t) : Sm E P (sqR (mMk c n m l gD MF a b ρ) k) t := by unfold G.mMk; simp only [sqR_bind]; exact q
theorem Sm.mkK {c n m l : Nat} {gD : List D → List D → List D} {MF : MFn} {ds es us : List D} {k : D → Env → R} {t1 : O D} {t2 : D → O β} (h : FSm MF (.obj c [] :: us) (fun _ => D.non) (fun o => [o]) t1) (hg : ds.length = n ∧ es.length = m ∧ us.length = l) (hu : gD ds es = us) (hE : E ρ) (q : ∀ b, Sm E P (k b ρ) (t2 b)) : Sm E P (sqR (G.mkK c n m l gD MF ds es ρ) k) (t1.bind t2) := by
  unfold Sm SmB at *
  try unfold FSm at *
  unfold G.mkK
  rw [hu, if_pos hg]
  cases t1 with
  | ok b => rw [show MF _ = _ from h]; exact q b
  | er x => obtain ⟨o, e⟩ := h; rw [e]; exact ⟨ρ, rfl, hE⟩
  | no => trivial
/-- methods -/
def isO (c : Nat) (d : D) : O Unit := if isObj c d = true then .ok () else .no
def mthK (c n l : Nat) (gD : List D → List D → List D) (MF : MFn) (a : M (List D)) (x : D) : M D := if isObj c x = true then a.bind fun ds => if (x :: ds).length = n ∧ (gD (x :: ds) []).length = l then G.frM (MF (gD (x :: ds) [])) else M.opt none else M.opt none
theorem Sm.mMth {c n l : Nat} {gD : List D → List D → List D} {MF : MFn} {o : M D} {a : M (List D)} {k : D → Env → R} (q : Sm E P (sqR (o ρ) fun x ρ1 => sqR (mthK c n l gD MF a x ρ1) k) t) : Sm E P (sqR (mMth c n l gD MF o a ρ) k) t := by unfold G.mMth; rw [sqR_bind]; exact q
def mthA (n l : Nat) (gD : List D → List D → List D) (MF : MFn) (x : D) (ds : List D) : M D := if (x :: ds).length = n ∧ (gD (x :: ds) []).length = l then G.frM (MF (gD (x :: ds) [])) else M.opt none
theorem Sm.mthK {c n l : Nat} {gD : List D → List D → List D} {MF : MFn} {x : D} {a : M (List D)} {k : D → Env → R} {t2 : Unit → O β} (q : Sm E P (sqR (a ρ) fun ds ρ1 => sqR (mthA n l gD MF x ds ρ1) k) (t2 ())) : Sm E P (sqR (G.mthK c n l gD MF a x ρ) k) ((isO c x).bind t2) := by
  unfold G.mthK isO
  split
  · rw [sqR_bind]; exact q
  · exact Sm.nil
theorem Sm.mthA {n l : Nat} {gD : List D → List D → List D} {MF : MFn} {x : D} {ds us : List D} {k : D → Env → R} {f : γ → D} {o : γ → List D} {t1 : O γ} {t2 : γ → O β} (h : FSm MF us f o t1) (hg : (x :: ds).length = n ∧ us.length = l) (hu : gD (x :: ds) [] = us) (hE : E ρ) (q : ∀ b, Sm E P (k (f b) ρ) (t2 b)) : Sm E P (sqR (G.mthA n l gD MF x ds ρ) k) (t1.bind t2) := by
  unfold G.mthA
  rw [hu, if_pos hg]
  exact Sm.frM hE h q
/-- str(x) of an instance -/
def strOK (c : Nat) (MF : MFn) (x : D) : M D := if isObj c x = true then (match MF [x] with
  | .ok (.str y) _ => M.ret (.str y)
  | _ => M.opt none) else M.opt none
theorem Sm.mStrO {c : Nat} {MF : MFn} {a : M D} {k : D → Env → R} (q : Sm E P (sqR (a ρ) fun x ρ1 => sqR (strOK c MF x ρ1) k) t) : Sm E P (sqR (mStrO c MF a ρ) k) t := by unfold G.mStrO; rw [sqR_bind]; exact q
def noX {α : Type} (m : O α) : O α := match m with
  | .ok a => .ok a
  | _ => .no
theorem Sm.strOK {c : Nat} {MF : MFn} {x : D} {k : D → Env → R} {o : Str → List D} {t1 : O Str} {t2 : Str → O β} (h : FSm MF [x] D.str o t1) (q : ∀ b, Sm E P (k (.str b) ρ) (t2 b)) : Sm E P (sqR (G.strOK c MF x ρ) k) ((isO c x).bind fun _ => (noX t1).bind t2) := by
  unfold FSm at h
  unfold G.strOK isO
  split
  · cases t1 with
    | ok b =>
      have e : MF [x] = _ := h
      simp only [e]
      exact q b
    | er x => exact Sm.nil
    | no => exact Sm.nil
  · exact Sm.nil
end
/-! ### statements -/
section
variable {β α γ δ : Type} {E : Env → Prop} {P : β → SR → Prop} {t : O β} {ρ : Env}
theorem sqS_R {r : Rs α} {k : α → Env → SR} {k2 : Env → SR} : sqS (sqR r k) k2 = sqR r fun a ρ => sqS (k a ρ) k2 := by cases r <;> rfl
theorem sqS_of {m : M α} {k : α → MS} {k2 : Env → SR} : sqS (MS.of m k ρ) k2 = sqR (m ρ) fun a ρ1 => sqS (k a ρ1) k2 := by
  unfold MS.of
  cases m ρ <;> rfl
theorem Sm.fin {r : SR} (q : Sm E P (sqS r .nx) t) : Sm E P r t := by
  have : sqS r .nx = r := by cases r <;> rfl
  rw [this] at q
  exact q
theorem Sm.sq {a b : MS} {k : Env → SR} (q : Sm E P (sqS (a ρ) fun ρ1 => sqS (b ρ1) k) t) : Sm E P (sqS ((a.sq b) ρ) k) t := by
  have : sqS ((a.sq b) ρ) k = sqS (a ρ) fun ρ1 => sqS (b ρ1) k := by unfold MS.sq; cases a ρ <;> rfl
  rw [this]; exact q
theorem Sm.nx {k : Env → SR} (q : Sm E P (k ρ) t) : Sm E P (sqS (mNx ρ) k) t := q
theorem Sm.set {i : Nat} {m : M D} {k : Env → SR} (q : Sm E P (sqR (m ρ) fun d ρ1 => k (ρ1.set i (some d))) t) : Sm E P (sqS (mSet i m ρ) k) t := by unfold mSet; rw [sqS_of]; exact q
theorem Sm.exp {m : M D} {k : Env → SR} (q : Sm E P (sqR (m ρ) fun _ ρ1 => k ρ1) t) : Sm E P (sqS (mExp m ρ) k) t := by unfold mExp; rw [sqS_of]; exact q
theorem Sm.ret {m : M D} {k : Env → SR} (q : Sm E P (sqR (m ρ) fun d ρ1 => .rt d ρ1) t) : Sm E P (sqS (mRet m ρ) k) t := by unfold mRet; rw [sqS_of]; exact q
theorem Sm.par {is : List Nat} {m : M (List D)} {k : Env → SR} (q : Sm E P (sqR (m ρ) fun ds ρ1 => k (setE ρ1 is ds)) t) : Sm E P (sqS (mPar is m ρ) k) t := by unfold mPar; rw [sqS_of]; exact q
def sqG (o : Option Env) (k : Env → SR) : SR := match o with
  | some ρ => k ρ
  | none => .no
theorem Sm.asg {g : MG} {m : M D} {k : Env → SR} (q : Sm E P (sqR (m ρ) fun d ρ1 => sqG (g d ρ1) k) t) : Sm E P (sqS (mAsg g m ρ) k) t := by
  unfold mAsg
  rw [sqS_of]
  have : (fun (d : D) (ρ1 : Env) => sqG (g d ρ1) k) = fun d ρ1 => sqS ((match g d ρ1 with | some ρ' => mNx ρ' | none => .no)) k := by
    funext d ρ1
    cases g d ρ1 <;> rfl
  rw [this] at q
  exact q
theorem Sm.gp {o : Option Env} {ρ1 : Env} {k : Env → SR} (h : o = some ρ1) (q : Sm E P (k ρ1) t) : Sm E P (sqG o k) t := by subst h; exact q
theorem sqG_C {g : MG} {gs : MGs} {d : D} {ds : List D} {k : Env → SR} : sqG (gC g gs (d :: ds) ρ) k = sqG (g d ρ) fun ρ1 => sqG (gs ds ρ1) k := by
  unfold gC
  simp only
  cases g d ρ <;> rfl
theorem Sm.gT {n : Nat} {gs : MGs} {ds : List D} {k : Env → SR} (hn : ds.length = n) (q : Sm E P (sqG (gs ds ρ) k) t) : Sm E P (sqG (gT n gs (.tup ds) ρ) k) t := by
  unfold G.gT
  simp only
  rw [if_pos hn]; exact q
theorem Sm.gC {g : MG} {gs : MGs} {d : D} {ds : List D} {k : Env → SR} (q : Sm E P (sqG (g d ρ) fun ρ1 => sqG (gs ds ρ1) k) t) : Sm E P (sqG (gC g gs (d :: ds) ρ) k) t := by rw [sqG_C]; exact q
theorem Sm.gE {k : Env → SR} (q : Sm E P (k ρ) t) : Sm E P (sqG (gE [] ρ) k) t := q
theorem Sm.gN {i : Nat} {d : D} {k : Env → SR} (q : Sm E P (k (ρ.set i (some d))) t) : Sm E P (sqG (gN i d ρ) k) t := q
/-- xs[j] = v -/
def stL {α : Type} (xs : List α) (j : Int) (v : α) : O (List α) := match ixN xs.length j with
  | some n => .ok (xs.set n v)
  | none => .no
theorem Sm.gSb {i : Nat} {mi : M D} {e : γ → D} {xs : List γ} {j : Int} {v : γ} {k : Env → SR} {t2 : List γ → O β} (h0 : ρ[i]? = some (some (.lst (xs.map e)))) (hm : mi ρ = .ok (.int j) ρ) (q : ∀ ys, Sm E P (k (ρ.set i (some (.lst (ys.map e))))) (t2 ys)) : Sm E P (sqG (gSb i mi (e v) ρ) k) ((stL xs j v).bind t2) := by
  unfold G.gSb stL
  rw [h0]
  simp only [hm, h0, List.length_map]
  cases ixN xs.length j with
  | none => exact Sm.nil
  | some n =>
    have := q (xs.set n v)
    rw [List.map_set] at this
    exact this
theorem Sm.ifp {c : M Bool} {a b : MS} {x : Bool} {ρ1 : Env} {k : Env → SR} {t1 t2 : O β} (hc : c ρ = .ok x ρ1) (ha : x = true → Sm E P (sqS (a ρ1) k) t1) (hb : x = false → Sm E P (sqS (b ρ1) k) t2) : Sm E P (sqS (mIfS c a b ρ) k) (if x = true then t1 else t2) := by
  unfold mIfS
  rw [sqS_of, hc]
  cases x with
  | true => exact ha rfl
  | false => exact hb rfl
def ifS (a b : MS) (x : Bool) : MS := if x = true then a else b
theorem Sm.ifc {c : M Bool} {a b : MS} {k : Env → SR} (q : Sm E P (sqR (c ρ) fun x ρ1 => sqS (ifS a b x ρ1) k) t) : Sm E P (sqS (mIfS c a b ρ) k) t := by
  unfold mIfS
  rw [sqS_of]
  exact q
theorem Sm.ifS {a b : MS} {x : Bool} {k : Env → SR} {t1 t2 : O β} (ha : x = true → Sm E P (sqS (a ρ) k) t1) (hb : x = false → Sm E P (sqS (b ρ) k) t2) : Sm E P (sqS (G.ifS a b x ρ) k) (if x = true then t1 else t2) := by
  cases x with
  | true => exact ha rfl
  | false => exact hb rfl
/-- what stands behind a part that goes on -/
def NX {γ J : Type} (I : γ → J → Env) (b : γ) (r : SR) : Prop := ∃ j, r = .nx (I b j)
/-- .. within a loop -/
def NC {γ J : Type} (I : γ → J → Env) (b : γ) (r : SR) : Prop := ∃ j, r = .nx (I b j) ∨ r = .ct (I b j)
theorem Sm.bs {J : Type} {I : γ → J → Env} {r : SR} {t1 : O γ} {t2 : γ → O β} {k : Env → SR} (h : Sm E (NX I) r t1) (q : ∀ b j, Sm E P (k (I b j)) (t2 b)) : Sm E P (sqS r k) (t1.bind t2) := by
  unfold Sm SmB at *
  try unfold FSm at *
  cases t1 with
  | ok b => obtain ⟨j, e⟩ := h; subst e; exact q b j
  | er x => obtain ⟨ρ, e, h⟩ := h; subst e; exact ⟨ρ, rfl, h⟩
  | no => trivial
theorem Sm.for {it : M (List D)} {g : MG} {b : MS} {k : Env → SR} (q : Sm E P (sqR (it ρ) fun ds ρ1 => sqS (forL g b ds ρ1) k) t) : Sm E P (sqS (mFor it g b ρ) k) t := by unfold mFor; rw [sqS_of]; exact q
/-- a loop that goes through -/
def forN {α σ : Type} (f : α → σ → O σ) : List α → σ → O σ
  | [], s => .ok s
  | x :: xs, s => (f x s).bind (forN f xs)
theorem SmB.forN {σ J : Type} {I : σ → J → Env} {f : α → σ → O σ} {e : α → D} {g : MG} {b : MS} (step : ∀ x s j, SmB E (NC I) (sqG (g (e x) (I s j)) b) (f x s)) : ∀ (xs : List α) (s : σ) (j : J), SmB E (NX I) (forL g b (xs.map e) (I s j)) (G.forN f xs s)
  | [], s, j => ⟨j, rfl⟩
  | x :: xs, s, j => by
    have hs := step x s j
    rw [List.map_cons]
    unfold forL G.forN
    cases hf : f x s with
    | ok s1 =>
      rw [hf] at hs
      obtain ⟨j1, e1⟩ := hs
      cases hg : g (e x) (I s j) with
      | none => rw [hg] at e1; rcases e1 with e1 | e1 <;> cases e1
      | some ρ2 =>
        rw [hg] at e1
        simp only [O.ok_bind]
        have ih := SmB.forN step xs s1 j1
        rcases e1 with e1 | e1
        · rw [show b ρ2 = _ from e1]; exact ih
        · rw [show b ρ2 = _ from e1]; exact ih
    | er x =>
      rw [hf] at hs
      obtain ⟨ρ1, e1, h1⟩ := hs
      cases hg : g (e _) (I s j) with
      | none => rw [hg] at e1; cases e1
      | some ρ2 =>
        rw [hg] at e1
        simp only [O.er_bind]
        rw [show b ρ2 = _ from e1]
        exact ⟨ρ1, rfl, h1⟩
    | no => trivial
theorem Sm.forN {σ J : Type} {I : σ → J → Env} {f : α → σ → O σ} {e : α → D} {g : MG} {b : MS} (step : ∀ x s j, Sm E (NC I) (sqG (g (e x) (I s j)) b) (f x s)) : ∀ (xs : List α) (s : σ) (j : J), Sm E (NX I) (forL g b (xs.map e) (I s j)) (G.forN f xs s) := by
  unfold Sm at *
  exact SmB.forN step
/-- a loop that may be left: on with a state, out with one, or out of the def -/
inductive Stp (σ ρ : Type) where
  | on (s : σ) | out (s : σ) | rt (r : ρ)
def forR {α σ ρ : Type} (f : α → σ → O (Stp σ ρ)) : List α → σ → O (Sum ρ σ)
  | [], s => .ok (.inr s)
  | x :: xs, s => (f x s).bind fun z => match z with
    | .on s => forR f xs s
    | .out s => .ok (.inr s)
    | .rt r => .ok (.inl r)
def ST {σ ρ J : Type} (I : σ → J → Env) (Q : ρ → SR → Prop) (z : Stp σ ρ) (r : SR) : Prop := match z with
  | .on s => NC I s r
  | .out s => ∃ j, r = .bk (I s j)
  | .rt v => (∃ d ρ, r = .rt d ρ) ∧ Q v r
def SO {σ ρ J : Type} (I : σ → J → Env) (Q : ρ → SR → Prop) (z : Sum ρ σ) (r : SR) : Prop := match z with
  | .inl v => (∃ d ρ, r = .rt d ρ) ∧ Q v r
  | .inr s => NX I s r
theorem SmB.forR {σ ρτ J : Type} {I : σ → J → Env} {Q : ρτ → SR → Prop} {f : α → σ → O (Stp σ ρτ)} {e : α → D} {g : MG} {b : MS} (step : ∀ x s j, SmB E (ST I Q) (sqG (g (e x) (I s j)) b) (f x s)) : ∀ (xs : List α) (s : σ) (j : J), SmB E (SO I Q) (forL g b (xs.map e) (I s j)) (G.forR f xs s)
  | [], s, j => ⟨j, rfl⟩
  | x :: xs, s, j => by
    have hs := step x s j
    rw [List.map_cons]
    unfold forL G.forR
    cases hf : f x s with
    | ok z =>
      rw [hf] at hs
      cases hg : g (e x) (I s j) with
      | none =>
        rw [hg] at hs
        cases z with
        | on s => obtain ⟨ρ1, e1⟩ := hs; rcases e1 with e1 | e1 <;> cases e1
        | out s => obtain ⟨ρ1, e1⟩ := hs; cases e1
        | rt v => obtain ⟨⟨d, ρ1, e1⟩, _⟩ := hs; cases e1
      | some ρ2 =>
        rw [hg] at hs
        simp only [O.ok_bind]
        cases z with
        | on s1 =>
          obtain ⟨j1, e1⟩ := hs
          have ih := SmB.forR step xs s1 j1
          rcases e1 with e1 | e1
          · rw [show b ρ2 = _ from e1]; exact ih
          · rw [show b ρ2 = _ from e1]; exact ih
        | out s1 =>
          obtain ⟨j1, e1⟩ := hs
          rw [show b ρ2 = _ from e1]
          exact ⟨j1, rfl⟩
        | rt v =>
          obtain ⟨⟨d, ρ1, e1⟩, h1⟩ := hs
          have e2 : b ρ2 = _ := e1
          simp only [e2]
          refine ⟨⟨d, ρ1, rfl⟩, ?_⟩
          rw [← e2]
          exact h1
    | er x =>
      rw [hf] at hs
      obtain ⟨ρ1, e1, h1⟩ := hs
      cases hg : g (e _) (I s j) with
      | none => rw [hg] at e1; cases e1
      | some ρ2 =>
        rw [hg] at e1
        simp only [O.er_bind]
        rw [show b ρ2 = _ from e1]
        exact ⟨ρ1, rfl, h1⟩
    | no => trivial
theorem Sm.forR {σ ρτ J : Type} {I : σ → J → Env} {Q : ρτ → SR → Prop} {f : α → σ → O (Stp σ ρτ)} {e : α → D} {g : MG} {b : MS} (step : ∀ x s j, Sm E (ST I Q) (sqG (g (e x) (I s j)) b) (f x s)) : ∀ (xs : List α) (s : σ) (j : J), Sm E (SO I Q) (forL g b (xs.map e) (I s j)) (G.forR f xs s) := by
  unfold Sm at *
  exact SmB.forR step
/-- behind a loop that may return -/
theorem Sm.bR {σ ρτ J : Type} {I : σ → J → Env} {Q : ρτ → SR → Prop} {r : SR} {t1 : O (Sum ρτ σ)} {t2 : Sum ρτ σ → O β} {k : Env → SR} (h : Sm E (SO I Q) r t1) (q1 : ∀ v, Q v r → Sm E P r (t2 (.inl v))) (q2 : ∀ s j, Sm E P (k (I s j)) (t2 (.inr s))) : Sm E P (sqS r k) (t1.bind t2) := by
  unfold Sm SmB at *
  try unfold FSm at *
  cases t1 with
  | ok z =>
    cases z with
    | inl v =>
      obtain ⟨⟨d, ρ, e⟩, h⟩ := h
      subst e
      exact q1 v h
    | inr s => obtain ⟨j, e⟩ := h; subst e; exact q2 s j
  | er x => obtain ⟨ρ, e, h⟩ := h; subst e; exact ⟨ρ, rfl, h⟩
  | no => trivial
theorem Sm.rs {x : Ex} {k : Env → SR} (hE : E ρ) : Sm E P (sqS (mRs x ρ) k) (.er x) := by
  unfold Sm SmB
  exact ⟨ρ, rfl, hE⟩
/-! while -/
def whN {σ : Type} (c : σ → O Bool) (b : σ → O σ) : Nat → σ → O σ
  | 0, _ => .no
  | n + 1, s => (c s).bind fun k => if k = true then (b s).bind (whN c b n) else .ok s
open Classical in
noncomputable def whO {σ : Type} (c : σ → O Bool) (b : σ → O σ) (s : σ) : O σ := if h : ∃ n x, whN c b n s = .ok x then whN c b (choose h) s else .no
theorem whN_mono {σ : Type} {c : σ → O Bool} {b : σ → O σ} : ∀ {n : Nat} {s x : σ}, whN c b n s = .ok x → ∀ k, whN c b (n + k) s = .ok x
  | 0, s, x, h, k => by cases h
  | n + 1, s, x, h, k => by
    rw [Nat.add_right_comm]
    unfold whN at h ⊢
    cases hc : c s with
    | ok v =>
      rw [hc] at h
      simp only [O.ok_bind] at h ⊢
      split at h
      · rename_i hv
        rw [if_pos hv]
        cases hb : b s with
        | ok s1 =>
          rw [hb] at h
          exact whN_mono (n := n) h k
        | er x => rw [hb] at h; cases h
        | no => rw [hb] at h; cases h
      · rename_i hv
        rw [if_neg hv]
        exact h
    | er x => rw [hc] at h; cases h
    | no => rw [hc] at h; cases h
theorem whO_of {σ : Type} {c : σ → O Bool} {b : σ → O σ} {n : Nat} {s x : σ} (h : whN c b n s = .ok x) : whO c b s = .ok x := by
  have hx : ∃ n x, whN c b n s = .ok x := ⟨n, x, h⟩
  unfold whO
  rw [dif_pos hx]
  obtain ⟨y, hy⟩ := Classical.choose_spec hx
  have h1 := whN_mono h (Classical.choose hx)
  have h2 := whN_mono hy n
  rw [Nat.add_comm] at h2
  rw [h1] at h2
  cases h2
  exact hy
theorem SmB.whN {σ J : Type} {I : σ → J → Env} {c : σ → O Bool} {bt : σ → O σ} {mc : M Bool} {b : MS} (hc : ∀ s j, SmB (fun _ => True) (fun x r => r = .ok x (I s j)) (mc (I s j)) (c s)) (hb : ∀ s j, c s = .ok true → SmB E (NC I) (b (I s j)) (bt s)) : ∀ (n : Nat) (s x : σ) (j : J), G.whN c bt n s = .ok x → ∃ j', whL mc b n (I s j) = .nx (I x j')
  | 0, s, x, j, e => by cases e
  | n + 1, s, x, j, e => by
    unfold G.whN at e
    have h1 := hc s j
    have h2 := hb s j
    unfold whL MS.of
    cases hs : c s with
    | ok v =>
      rw [hs] at e h1 h2
      have h1 : mc (I s j) = .ok v (I s j) := h1
      rw [h1]
      simp only [O.ok_bind] at e ⊢
      cases v with
      | true =>
        simp only [if_true] at e ⊢
        cases hbs : bt s with
        | ok s1 =>
          rw [hbs] at e
          have h3 := h2 rfl
          rw [hbs] at h3
          obtain ⟨j1, e1⟩ := h3
          have ih := SmB.whN hc hb n s1 x j1 e
          rcases e1 with e1 | e1 <;> simp only [e1] <;> exact ih
        | er x => rw [hbs] at e; cases e
        | no => rw [hbs] at e; cases e
      | false =>
        simp only [Bool.false_eq_true, if_false] at e ⊢
        cases e
        exact ⟨j, rfl⟩
    | er x => rw [hs] at e; cases e
    | no => rw [hs] at e; cases e
theorem Sm.whN {σ J : Type} {I : σ → J → Env} {c : σ → O Bool} {bt : σ → O σ} {mc : M Bool} {b : MS} (hc : ∀ s j, Sm (fun _ => True) (fun x r => r = .ok x (I s j)) (mc (I s j)) (c s)) (hb : ∀ s j, c s = .ok true → Sm E (NC I) (b (I s j)) (bt s)) : ∀ (n : Nat) (s x : σ) (j : J), G.whN c bt n s = .ok x → ∃ j', whL mc b n (I s j) = .nx (I x j') := by
  unfold Sm at *
  exact SmB.whN hc hb
theorem SmB.wh {σ J : Type} {I : σ → J → Env} {c : σ → O Bool} {bt : σ → O σ} {mc : M Bool} {b : MS} (hc : ∀ s j, SmB (fun _ => True) (fun x r => r = .ok x (I s j)) (mc (I s j)) (c s)) (hb : ∀ s j, c s = .ok true → SmB E (NC I) (b (I s j)) (bt s)) (s : σ) (j : J) : SmB E (NX I) (mWh mc b (I s j)) (whO c bt s) := by
  cases e : whO c bt s with
  | ok x =>
    have hx : ∃ n x, G.whN c bt n s = .ok x := by
      unfold whO at e
      split at e
      · assumption
      · cases e
    obtain ⟨n, y, hy⟩ := hx
    obtain ⟨j', e1⟩ := SmB.whN hc hb n s y j hy
    have e2 := whO_of hy
    rw [e] at e2
    cases e2
    refine ⟨j', ?_⟩
    have hn : ∃ n, whL mc b n (I s j) ≠ .no := ⟨n, by rw [e1]; simp⟩
    unfold mWh
    rw [dif_pos hn]
    have k1 := whL_mono (c := mc) (b := b) (n := n) (ρ := I s j) (by rw [e1]; simp) (Classical.choose hn)
    have k2 := whL_mono (c := mc) (b := b) (Classical.choose_spec hn) n
    rw [Nat.add_comm] at k2
    rw [← k2, k1, e1]
  | er x =>
    unfold whO at e
    split at e
    · rename_i hx
      obtain ⟨y, hy⟩ := Classical.choose_spec hx
      rw [hy] at e
      cases e
    · cases e
  | no => trivial
theorem Sm.wh {σ J : Type} {I : σ → J → Env} {c : σ → O Bool} {bt : σ → O σ} {mc : M Bool} {b : MS} (hc : ∀ s j, Sm (fun _ => True) (fun x r => r = .ok x (I s j)) (mc (I s j)) (c s)) (hb : ∀ s j, c s = .ok true → Sm E (NC I) (b (I s j)) (bt s)) (s : σ) (j : J) : Sm E (NX I) (mWh mc b (I s j)) (whO c bt s) := by
  unfold Sm at *
  exact SmB.wh hc hb s j
end
end G
namespace G
/-! ### try -/
def tryO {α : Type} (tb : O α) (caught : Nat → Bool) (th : O α) : O α := match tb with
  | .ok z => .ok z
  | .er x => if caught x.c = true then noX th else .er x
  | .no => .no
theorem SmB.tr {γ J : Type} {E : Env → Prop} {E1 : J → Env} {P : γ → SR → Prop} {caught : Nat → Bool} {b h : MS} {tb th : O γ} {ρ : Env} (hP : ∀ z x ρ, P z (.er x ρ) → False) (hb : SmB (fun ρ => ∃ j, ρ = E1 j) P (b ρ) tb) (hE : ∀ j, E (E1 j)) (hh : ∀ j, SmB E P (h (E1 j)) th) : SmB E P (mTry caught b h ρ) (tryO tb caught th) := by
  unfold tryO mTry
  cases tb with
  | ok z =>
    have hb : P z (b ρ) := hb
    cases hr : b ρ with
    | er x ρ1 => rw [hr] at hb; exact (hP _ _ _ hb).elim
    | nx ρ1 => rw [hr] at hb; exact hb
    | rt d ρ1 => rw [hr] at hb; exact hb
    | bk ρ1 => rw [hr] at hb; exact hb
    | ct ρ1 => rw [hr] at hb; exact hb
    | no => rw [hr] at hb; exact hb
  | er x =>
    obtain ⟨_, e, j, rfl⟩ := hb
    rw [e]
    show SmB E P (if caught x.c = true then noE h (E1 j) else .er x (E1 j)) _
    simp only
    split
    · have := hh j
      cases th with
      | ok z =>
        have this : P z (h (E1 j)) := this
        show P z (noE h (E1 j))
        unfold noE
        cases hr : h (E1 j) with
        | er x ρ1 => rw [hr] at this; exact (hP _ _ _ this).elim
        | nx ρ1 => rw [hr] at this; exact this
        | rt d ρ1 => rw [hr] at this; exact this
        | bk ρ1 => rw [hr] at this; exact this
        | ct ρ1 => rw [hr] at this; exact this
        | no => rw [hr] at this; exact this
      | er z => trivial
      | no => trivial
    · exact ⟨_, rfl, hE j⟩
  | no => trivial
theorem Sm.tr {γ J : Type} {E : Env → Prop} {E1 : J → Env} {P : γ → SR → Prop} {caught : Nat → Bool} {b h : MS} {tb th : O γ} {ρ : Env} (hP : ∀ z x ρ, P z (.er x ρ) → False) (hb : Sm (fun ρ => ∃ j, ρ = E1 j) P (b ρ) tb) (hE : ∀ j, E (E1 j)) (hh : ∀ j, Sm E P (h (E1 j)) th) : Sm E P (mTry caught b h ρ) (tryO tb caught th) := by
  unfold Sm at *
  exact SmB.tr hP hb hE hh
theorem SO.ner {σ ρτ J : Type} {I : σ → J → Env} {Q : ρτ → SR → Prop} (z : Sum ρτ σ) (x : Ex) (ρ : Env) (h : SO I Q z (.er x ρ)) : False := by
  cases z with
  | inl v => obtain ⟨⟨d, ρ1, e⟩, _⟩ := h; cases e
  | inr s => obtain ⟨ρ1, e⟩ := h; cases e
theorem RT.rt {γ : Type} {f : γ → D} {o : γ → List D} {ix : List Nat} {b : γ} {r : SR} (h : RT f o ix b r) : (∃ d ρ, r = .rt d ρ) ∧ RT f o ix b r := by
  obtain ⟨ρ, e, h1⟩ := h
  exact ⟨⟨_, _, e⟩, ρ, e, h1⟩
def cD (d : D) : O D := .ok d
theorem cst_D {α : Type} : (∀ d x, cD d = .ok x → d = (fun d : D => d) x) := fun d x h => by cases h; rfl
end G
/-! T1: typed data: how they lie, how they are compared, taken. -/
namespace G
open PySem PySem.Spec PyProof.Rows L2
/-! ### how typed data lie -/
def eU (_ : Unit) : D := .non
def eD (d : D) : D := d
def eL {α : Type} (e : α → D) (xs : List α) : D := .lst (xs.map e)
def eT {α : Type} (e : α → D) (xs : List α) : D := .tup (xs.map e)
def eP {α β : Type} (e : α → D) (f : β → D) (x : α × β) : D := .tup [e x.1, f x.2]
def eP3 {α β γ : Type} (e : α → D) (f : β → D) (g : γ → D) (x : α × β × γ) : D := .tup [e x.1, f x.2.1, g x.2.2]
def eP4 {α β γ δ : Type} (e : α → D) (f : β → D) (g : γ → D) (h : δ → D) (x : α × β × γ × δ) : D := .tup [e x.1, f x.2.1, g x.2.2.1, h x.2.2.2]
def eP5 {α β γ δ ε : Type} (e : α → D) (f : β → D) (g : γ → D) (h : δ → D) (i : ε → D) (x : α × β × γ × δ × ε) : D := .tup [e x.1, f x.2.1, g x.2.2.1, h x.2.2.2.1, i x.2.2.2.2]
def eO {α : Type} (e : α → D) : Option α → D
  | none => .non
  | some x => e x
def pL {α : Type} (p : α → PyData) (xs : List α) : PyData := .list (xs.map p)
def pT {α : Type} (p : α → PyData) (xs : List α) : PyData := .tuple (xs.map p)
def pP {α β : Type} (e : α → PyData) (f : β → PyData) (x : α × β) : PyData := .tuple [e x.1, f x.2]
def pP3 {α β γ : Type} (e : α → PyData) (f : β → PyData) (g : γ → PyData) (x : α × β × γ) : PyData := .tuple [e x.1, f x.2.1, g x.2.2]
def pP4 {α β γ δ : Type} (e : α → PyData) (f : β → PyData) (g : γ → PyData) (h : δ → PyData) (x : α × β × γ × δ) : PyData := .tuple [e x.1, f x.2.1, g x.2.2.1, h x.2.2.2]
/-- plain data: of one kind, told apart, compared -/
structure Ety {α : Type} (e : α → D) (p : α → PyData) (n : Nat) : Prop where
  py : ∀ x, toPy (e x) = some (p x)
  dp : ∀ x, (p x).depth ≤ n
  ev : ∀ x y, PyData.eqv (p x) (p y) = true ↔ x = y
  al : ∀ x y, PySem.W.alike (p x) (p y) = true
  nn : ∀ x, isNn (p x) = false
theorem ety_int : Ety D.int PyData.int 0 := ⟨fun _ => rfl, fun _ => Nat.le_refl _, fun x y => by simp [PyData.eqv], fun _ _ => rfl, fun _ => rfl⟩
theorem ety_bl : Ety D.bl PyData.bool 0 := ⟨fun _ => rfl, fun _ => Nat.le_refl _, fun x y => by simp [PyData.eqv], fun _ _ => rfl, fun _ => rfl⟩
theorem ety_str : Ety D.str PyData.str 0 := ⟨fun _ => rfl, fun _ => Nat.le_refl _, fun x y => by simp [PyData.eqv], fun _ _ => rfl, fun _ => rfl⟩
theorem Ety.pyL {α : Type} {e : α → D} {p : α → PyData} {n : Nat} (h : Ety e p n) : ∀ xs : List α, toPyL (xs.map e) = some (xs.map p)
  | [] => rfl
  | x :: xs => by simp only [List.map_cons, toPyL, h.py, h.pyL xs]
theorem Ety.dpL {α : Type} {e : α → D} {p : α → PyData} {n : Nat} (h : Ety e p n) : ∀ xs : List α, PyData.depthAll (xs.map p) ≤ n + 1
  | [] => Nat.zero_le _
  | x :: xs => by
    have h1 := h.dp x
    have h2 := h.dpL xs
    simp only [List.map_cons, PyData.depthAll]
    omega
theorem Ety.evL {α : Type} {e : α → D} {p : α → PyData} {n : Nat} (h : Ety e p n) : ∀ xs ys : List α, PyData.eqvAll (xs.map p) (ys.map p) = true ↔ xs = ys
  | [], [] => by simp [PyData.eqvAll]
  | [], _ :: _ => by simp [PyData.eqvAll]
  | _ :: _, [] => by simp [PyData.eqvAll]
  | x :: xs, y :: ys => by simp [PyData.eqvAll, h.ev, h.evL xs ys]
theorem Ety.alL {α : Type} {e : α → D} {p : α → PyData} {n : Nat} (h : Ety e p n) : ∀ xs ys : List α, PySem.W.alikeAll (xs.map p) (ys.map p) = true
  | [], _ => by simp [PySem.W.alikeAll]
  | _ :: _, [] => by simp [PySem.W.alikeAll]
  | x :: xs, y :: ys => by simp [PySem.W.alikeAll, h.al, h.alL xs ys]
theorem ety_lst {α : Type} {e : α → D} {p : α → PyData} {n : Nat} (h : Ety e p n) : Ety (eL e) (pL p) (n + 2) where
  py x := by simp only [eL, toPy, h.pyL, pL, Option.map]
  dp x := by have := h.dpL x; simp only [pL, PyData.depth]; omega
  ev x y := by simp only [pL, PyData.eqv, h.evL]
  al x y := by simp only [pL, PySem.W.alike, h.alL]
  nn x := rfl
theorem ety_tup {α : Type} {e : α → D} {p : α → PyData} {n : Nat} (h : Ety e p n) : Ety (eT e) (pT p) (n + 2) where
  py x := by simp only [eT, toPy, h.pyL, pT, Option.map]
  dp x := by have := h.dpL x; simp only [pT, PyData.depth]; omega
  ev x y := by simp only [pT, PyData.eqv, h.evL]
  al x y := by simp only [pT, PySem.W.alike, h.alL]
  nn x := rfl
theorem ety_p {α β : Type} {e : α → D} {p : α → PyData} {n : Nat} {f : β → D} {q : β → PyData} {m : Nat} (h : Ety e p n) (k : Ety f q m) : Ety (eP e f) (pP p q) (n + m + 3) where
  py x := by simp only [eP, toPy, toPyL, h.py, k.py, pP, Option.map]
  dp x := by have := h.dp x.1; have := k.dp x.2; simp only [pP, PyData.depth, PyData.depthAll]; omega
  ev x y := by simp [pP, PyData.eqv, PyData.eqvAll, h.ev, k.ev, Prod.ext_iff]
  al x y := by simp [pP, PySem.W.alike, PySem.W.alikeAll, h.al, k.al]
  nn x := rfl
theorem ety_p3 {α β γ : Type} {e : α → D} {p : α → PyData} {n : Nat} {f : β → D} {q : β → PyData} {m : Nat} {g : γ → D} {r : γ → PyData} {l : Nat} (h : Ety e p n) (k : Ety f q m) (j : Ety g r l) : Ety (eP3 e f g) (pP3 p q r) (n + m + l + 4) where
  py x := by simp only [eP3, toPy, toPyL, h.py, k.py, j.py, pP3, Option.map]
  dp x := by have := h.dp x.1; have := k.dp x.2.1; have := j.dp x.2.2; simp only [pP3, PyData.depth, PyData.depthAll]; omega
  ev x y := by simp [pP3, PyData.eqv, PyData.eqvAll, h.ev, k.ev, j.ev, Prod.ext_iff]
  al x y := by simp [pP3, PySem.W.alike, PySem.W.alikeAll, h.al, k.al, j.al]
  nn x := rfl
theorem ety_p4 {α β γ δ : Type} {e : α → D} {p : α → PyData} {n : Nat} {f : β → D} {q : β → PyData} {m : Nat} {g : γ → D} {r : γ → PyData} {l : Nat} {i : δ → D} {s : δ → PyData} {o : Nat} (h : Ety e p n) (k : Ety f q m) (j : Ety g r l) (v : Ety i s o) : Ety (eP4 e f g i) (pP4 p q r s) (n + m + l + o + 5) where
  py x := by simp only [eP4, toPy, toPyL, h.py, k.py, j.py, v.py, pP4, Option.map]
  dp x := by have := h.dp x.1; have := k.dp x.2.1; have := j.dp x.2.2.1; have := v.dp x.2.2.2; simp only [pP4, PyData.depth, PyData.depthAll]; omega
  ev x y := by simp [pP4, PyData.eqv, PyData.eqvAll, h.ev, k.ev, j.ev, v.ev, Prod.ext_iff]
  al x y := by simp [pP4, PySem.W.alike, PySem.W.alikeAll, h.al, k.al, j.al, v.al]
  nn x := rfl
section
variable {α : Type} {e : α → D} {p : α → PyData} {n : Nat}
theorem Ety.tk (h : Ety e p n) {x y : α} (q : PySem.W.keyToks (p x) = PySem.W.keyToks (p y)) : x = y := by
  have h1 := (PySem.W.toks_eqv (p x) (p y) (h.al x y)).2
  cases hv : PyData.eqv (p x) (p y) with
  | true => exact (h.ev x y).mp hv
  | false =>
    have h2 := h1 hv [] [.inl 0]
    rw [q] at h2
    have a1 := PySem.W.lex_pre (PySem.W.keyToks (p y)) [] [.inl 0]
    have a2 := PySem.W.lex_pre (PySem.W.keyToks (p y)) [] []
    rw [List.append_nil] at a2 h2 a1
    rw [a2] at h2
    rw [a1] at h2
    exact absurd h2 (by decide)
theorem Ety.low (h : Ety e p n) (hn : n ≤ 60) (x y : α) : lowD (p x) (p y) = true := by
  have := h.dp x
  simp only [lowD, decide_eq_true_eq]
  omega
theorem Ety.eqb [DecidableEq α] (h : Ety e p n) (x y : α) : PyData.eqv (p x) (p y) = decide (x = y) := by
  rw [Bool.eq_iff_iff, h.ev, decide_eq_true_iff]
theorem Ety.eq [DecidableEq α] (h : Ety e p n) (hn : n ≤ 60 := by decide) (x y : α) : dEq (e x) (e y) = some (.bl (decide (x = y))) := by
  simp [dEq, dDat, h.py, gEq, h.low hn, h.eqb]
theorem Ety.ne [DecidableEq α] (h : Ety e p n) (hn : n ≤ 60 := by decide) (x y : α) : dNe (e x) (e y) = some (.bl (!decide (x = y))) := by
  simp [dNe, dDat, h.py, gEq, h.low hn, h.eqb]
/-- x < y -/
def lt {α : Type} (p : α → PyData) (x y : α) : Bool := PySem.W.dataLt (p x) (p y)
theorem Ety.lt (h : Ety e p n) (hn : n ≤ 60 := by decide) (x y : α) : dLt (e x) (e y) = some (.bl (G.lt p x y)) := by
  simp [dLt, dDat, h.py, gCmp, h.low hn, h.al, h.nn, G.lt]
theorem Ety.gt (h : Ety e p n) (hn : n ≤ 60 := by decide) (x y : α) : dGt (e x) (e y) = some (.bl (G.lt p y x)) := by
  simp [dGt, dDat, h.py, gCmp, h.low hn, h.al, h.nn, G.lt]
theorem Ety.le (h : Ety e p n) (hn : n ≤ 60 := by decide) (x y : α) : dLe (e x) (e y) = some (.bl (!G.lt p y x)) := by
  simp [dLe, dDat, h.py, gCmp, h.low hn, h.al, h.nn, G.lt]
theorem Ety.ge (h : Ety e p n) (hn : n ≤ 60 := by decide) (x y : α) : dGe (e x) (e y) = some (.bl (!G.lt p x y)) := by
  simp [dGe, dDat, h.py, gCmp, h.low hn, h.al, h.nn, G.lt]
theorem Ety.anyL [DecidableEq α] (h : Ety e p n) (x : α) : ∀ xs : List α, (xs.map p).any (fun y => PyData.eqv y (p x)) = decide (x ∈ xs)
  | [] => rfl
  | y :: ys => by
    rw [List.map_cons, List.any_cons, h.anyL x ys, h.eqb]
    by_cases q : y = x
    · simp [q]
    · simp [q, show ¬ x = y from fun z => q z.symm]
theorem Ety.dpm (h : Ety e p n) (hn : n ≤ 60) (x : α) (xs : List α) : min (PyData.depthAll (xs.map p)) (p x).depth ≤ 60 := by
  have := h.dp x
  omega
theorem Ety.inL [DecidableEq α] (h : Ety e p n) (hn : n ≤ 60 := by decide) (x : α) (xs : List α) : dIn (e x) (.lst (xs.map e)) = some (.bl (decide (x ∈ xs))) := by
  have h0 : dSg false (e x) (.lst (xs.map e)) = none := by cases e x <;> rfl
  simp [dIn, dOr2, h0, dDat, h.py, toPy, h.pyL, gIn, h.dpm hn, h.anyL]
theorem Ety.inT [DecidableEq α] (h : Ety e p n) (hn : n ≤ 60 := by decide) (x : α) (xs : List α) : dIn (e x) (.tup (xs.map e)) = some (.bl (decide (x ∈ xs))) := by
  have h0 : dSg false (e x) (.tup (xs.map e)) = none := by cases e x <;> rfl
  simp [dIn, dOr2, h0, dDat, h.py, toPy, h.pyL, gIn, h.dpm hn, h.anyL]
theorem Ety.ninL [DecidableEq α] (h : Ety e p n) (hn : n ≤ 60 := by decide) (x : α) (xs : List α) : dNin (e x) (.lst (xs.map e)) = some (.bl (!decide (x ∈ xs))) := by
  have h0 : dSg true (e x) (.lst (xs.map e)) = none := by cases e x <;> rfl
  simp [dNin, dOr2, h0, dDat, h.py, toPy, h.pyL, gIn, h.dpm hn, h.anyL]
theorem Ety.ninT [DecidableEq α] (h : Ety e p n) (hn : n ≤ 60 := by decide) (x : α) (xs : List α) : dNin (e x) (.tup (xs.map e)) = some (.bl (!decide (x ∈ xs))) := by
  have h0 : dSg true (e x) (.tup (xs.map e)) = none := by cases e x <;> rfl
  simp [dNin, dOr2, h0, dDat, h.py, toPy, h.pyL, gIn, h.dpm hn, h.anyL]
end
/-! sorted -/
def leB {α : Type} (p : α → PyData) (a b : α) : Bool := !G.lt p b a
def srt {α : Type} (p : α → PyData) (xs : List α) : List α := xs.mergeSort (leB p)
def Srt1 {α : Type} (p : α → PyData) : Prop := (∀ x, tup1 (p x) = true) ∨ (∀ x, notNT (p x) = true)
theorem srt1_int : Srt1 PyData.int := .inr fun _ => rfl
theorem srt1_str : Srt1 PyData.str := .inr fun _ => rfl
theorem srt1_p {α β : Type} {p : α → PyData} {q : β → PyData} : Srt1 (pP p q) := .inl fun _ => rfl
theorem srt1_p3 {α β γ : Type} {p : α → PyData} {q : β → PyData} {r : γ → PyData} : Srt1 (pP3 p q r) := .inl fun _ => rfl
theorem srt1_lst {α : Type} {p : α → PyData} : Srt1 (pL p) := .inr fun _ => rfl
theorem srtD_map {α : Type} {e : α → D} {p : α → PyData} (xs : List α) : srtD (xs.map e) (xs.map p) = (srt p xs).map e := by
  have hz : (xs.map e).zip (xs.map p) = xs.map fun x => (e x, p x) := by
    induction xs with
    | nil => rfl
    | cons x xs ih => simp only [List.map_cons, List.zip_cons_cons, ih]
  unfold srtD srt
  have h2 := List.map_mergeSort (r := leB p) (s := PySem.W.dataLe false Prod.snd) (f := fun x => (e x, p x)) (l := xs) (fun a _ b _ => rfl)
  rw [hz, ← h2, List.map_map]
  rfl
theorem Ety.sortOk {α : Type} {e : α → D} {p : α → PyData} {n : Nat} (h : Ety e p n) (hn : n ≤ 60) (xs : List α) (h1 : (xs.map p).all tup1 = true ∨ (xs.map p).all notNT = true) : sortOk (xs.map p) = true := by
  have a1 : ((xs.map p).all fun a => (xs.map p).all fun b => PySem.W.alike a b) = true := by
    rw [List.all_map]
    exact List.all_eq_true.mpr fun x _ => by
      simp only [Function.comp]
      rw [List.all_map]
      exact List.all_eq_true.mpr fun y _ => h.al x y
  have a2 : ((xs.map p).all fun a => decide (a.depth ≤ 60)) = true := by
    rw [List.all_map]
    exact List.all_eq_true.mpr fun x _ => by
      have := h.dp x
      simp only [Function.comp, decide_eq_true_eq]
      omega
  unfold G.sortOk
  rw [a1, a2]
  rcases h1 with h1 | h1 <;> rw [h1] <;> simp
theorem Ety.srtd {α : Type} {e : α → D} {p : α → PyData} {n : Nat} (h : Ety e p n) (h1 : Srt1 p) (hn : n ≤ 60 := by decide) (xs : List α) : dSorted [.lst (xs.map e)] = some (.lst ((srt p xs).map e)) := by
  have ok := h.sortOk hn xs (h1.imp (fun z => by rw [List.all_map]; exact List.all_eq_true.mpr fun x _ => z x) (fun z => by rw [List.all_map]; exact List.all_eq_true.mpr fun x _ => z x))
  simp only [dSorted, h.pyL, Option.bind, ok, if_true, srtD_map]
/-- sorted, of tuples of any length: none of them empty -/
def srtO {α : Type} (p : α → PyData) (xs : List α) : O (List α) := if (xs.map p).all tup1 = true then .ok (srt p xs) else .no
theorem Ety.srtO {α : Type} {e : α → D} {p : α → PyData} {n : Nat} (h : Ety e p n) (hn : n ≤ 60 := by decide) (xs : List α) : Os (dSorted [.lst (xs.map e)]) (eL e) (srtO p xs) := by
  unfold G.srtO
  split
  · rename_i h1
    have ok := h.sortOk hn xs (.inl h1)
    show dSorted _ = some (.lst ((srt p xs).map e))
    simp only [dSorted, h.pyL, Option.bind, ok, if_true, srtD_map]
  · trivial
/-! ### data taken as of a kind -/
structure Cst {α : Type} (e : α → D) (c : D → O α) : Prop where
  sd : ∀ d x, c d = .ok x → d = e x
  ne : ∀ d x, c d ≠ .er x
  cp : ∀ x, c (e x) = .ok x
def cI : D → O Int
  | .int i => .ok i
  | _ => .no
def cS : D → O Str
  | .str i => .ok i
  | _ => .no
def cB : D → O Bool
  | .bl i => .ok i
  | _ => .no
def mapO {α β : Type} (f : α → O β) : List α → O (List β)
  | [] => .ok []
  | x :: xs => (f x).bind fun y => (mapO f xs).bind fun ys => .ok (y :: ys)
def cL {α : Type} (c : D → O α) : D → O (List α)
  | .lst xs => mapO c xs
  | _ => .no
def cT {α : Type} (c : D → O α) : D → O (List α)
  | .tup xs => mapO c xs
  | _ => .no
def cP {α β : Type} (c : D → O α) (d : D → O β) : D → O (α × β)
  | .tup [x, y] => (c x).bind fun a => (d y).bind fun b => .ok (a, b)
  | _ => .no
def cP3 {α β γ : Type} (c : D → O α) (d : D → O β) (f : D → O γ) : D → O (α × β × γ)
  | .tup [x, y, z] => (c x).bind fun a => (d y).bind fun b => (f z).bind fun g => .ok (a, b, g)
  | _ => .no
def cO {α : Type} (c : D → O α) : D → O (Option α)
  | .non => .ok none
  | d => (c d).bind fun x => .ok (some x)
theorem cst_int : Cst D.int cI where
  sd d x h := by
    unfold cI at h
    split at h
    · cases h; rfl
    · cases h
  ne d x h := by
    unfold cI at h
    split at h
    · cases h
    · cases h
  cp _ := rfl
theorem cst_str : Cst D.str cS where
  sd d x h := by
    unfold cS at h
    split at h
    · cases h; rfl
    · cases h
  ne d x h := by
    unfold cS at h
    split at h
    · cases h
    · cases h
  cp _ := rfl
theorem cst_bl : Cst D.bl cB where
  sd d x h := by
    unfold cB at h
    split at h
    · cases h; rfl
    · cases h
  ne d x h := by
    unfold cB at h
    split at h
    · cases h
    · cases h
  cp _ := rfl
theorem bind_ok {α β : Type} {m : O α} {f : α → O β} {b : β} (h : m.bind f = .ok b) : ∃ a, m = .ok a ∧ f a = .ok b := by
  cases m with
  | ok a => exact ⟨a, rfl, h⟩
  | er x => cases h
  | no => cases h
theorem bind_er {α β : Type} {m : O α} {f : α → O β} {x : Ex} (h : m.bind f = .er x) : m = .er x ∨ ∃ a, m = .ok a ∧ f a = .er x := by
  cases m with
  | ok a => exact .inr ⟨a, rfl, h⟩
  | er y =>
    have h : (O.er y : O β) = .er x := h
    cases h
    exact .inl rfl
  | no => cases h
section
variable {α β γ : Type} {e : α → D} {c : D → O α} {f : β → D} {d : D → O β} {g : γ → D} {k : D → O γ}
theorem Cst.mapS (h : Cst e c) : ∀ (ds : List D) (xs : List α), mapO c ds = .ok xs → ds = xs.map e
  | [], xs, q => by cases q; rfl
  | z :: ds, xs, q => by
    obtain ⟨a, e1, q⟩ := bind_ok q
    obtain ⟨ys, e2, q⟩ := bind_ok q
    cases q
    rw [List.map_cons, h.sd z a e1, h.mapS ds ys e2]
theorem Cst.mapN (h : Cst e c) : ∀ (ds : List D) (x : Ex), mapO c ds ≠ .er x
  | [], x, q => by cases q
  | z :: ds, x, q => by
    rcases bind_er q with q | ⟨a, _, q⟩
    · exact h.ne _ _ q
    · rcases bind_er q with q | ⟨b, _, q⟩
      · exact h.mapN ds x q
      · cases q
theorem Cst.mapC (h : Cst e c) : ∀ xs : List α, mapO c (xs.map e) = .ok xs
  | [] => rfl
  | x :: xs => by simp only [List.map_cons, mapO, h.cp, h.mapC xs, O.ok_bind]
theorem cst_lst (h : Cst e c) : Cst (eL e) (cL c) where
  sd d x q := by
    unfold cL at q
    split at q
    · rw [h.mapS _ _ q]; rfl
    · cases q
  ne d x q := by
    unfold cL at q
    split at q
    · exact h.mapN _ _ q
    · cases q
  cp x := h.mapC x
theorem cst_tup (h : Cst e c) : Cst (eT e) (cT c) where
  sd d x q := by
    unfold cT at q
    split at q
    · rw [h.mapS _ _ q]; rfl
    · cases q
  ne d x q := by
    unfold cT at q
    split at q
    · exact h.mapN _ _ q
    · cases q
  cp x := h.mapC x
theorem cst_p (h : Cst e c) (h2 : Cst f d) : Cst (eP e f) (cP c d) where
  sd z x q := by
    unfold cP at q
    split at q
    · obtain ⟨a, e1, q⟩ := bind_ok q
      obtain ⟨b, e2, q⟩ := bind_ok q
      cases q
      rw [h.sd _ _ e1, h2.sd _ _ e2]
      rfl
    · cases q
  ne z x q := by
    unfold cP at q
    split at q
    · rcases bind_er q with q | ⟨a, _, q⟩
      · exact h.ne _ _ q
      · rcases bind_er q with q | ⟨a, _, q⟩
        · exact h2.ne _ _ q
        · cases q
    · cases q
  cp x := by simp only [eP, cP, h.cp, h2.cp, O.ok_bind]
theorem cst_p3 (h : Cst e c) (h2 : Cst f d) (h3 : Cst g k) : Cst (eP3 e f g) (cP3 c d k) where
  sd z x q := by
    unfold cP3 at q
    split at q
    · obtain ⟨a, e1, q⟩ := bind_ok q
      obtain ⟨b, e2, q⟩ := bind_ok q
      obtain ⟨b3, e3, q⟩ := bind_ok q
      cases q
      rw [h.sd _ _ e1, h2.sd _ _ e2, h3.sd _ _ e3]
      rfl
    · cases q
  ne z x q := by
    unfold cP3 at q
    split at q
    · rcases bind_er q with q | ⟨a, _, q⟩
      · exact h.ne _ _ q
      · rcases bind_er q with q | ⟨a, _, q⟩
        · exact h2.ne _ _ q
        · rcases bind_er q with q | ⟨a, _, q⟩
          · exact h3.ne _ _ q
          · cases q
    · cases q
  cp x := by simp only [eP3, cP3, h.cp, h2.cp, h3.cp, O.ok_bind]
end
end G
/-! T2: typed operations. -/
namespace G
open PySem PySem.Spec PyProof.Rows L2
/-! ### pure readings -/
theorem notB_ok {a : M Bool} {b : Bool} {ρ ρ1 : Env} (h : a ρ = .ok b ρ1) : mNot a ρ = .ok (!b) ρ1 := by simp only [mNot, M.bind, h, M.ret]
theorem andB_ok {a c : M Bool} {x y : Bool} {ρ : Env} (h : a ρ = .ok x ρ) (h2 : c ρ = .ok y ρ) : mAnd a c ρ = .ok (x && y) ρ := by
  cases x <;> simp [mAnd, M.bind, h, h2, M.ret]
theorem orB_ok {a c : M Bool} {x y : Bool} {ρ : Env} (h : a ρ = .ok x ρ) (h2 : c ρ = .ok y ρ) : mOr a c ρ = .ok (x || y) ρ := by
  cases x <;> simp [mOr, M.bind, h, h2, M.ret]
theorem andV_ok {a c : M D} {x y : Bool} {ρ : Env} (h : a ρ = .ok (.bl x) ρ) (h2 : c ρ = .ok (.bl y) ρ) : mAndV a c ρ = .ok (.bl (x && y)) ρ := by
  cases x <;> simp [mAndV, M.bind, h, h2, M.ret]
theorem orV_ok {a c : M D} {x y : Bool} {ρ : Env} (h : a ρ = .ok (.bl x) ρ) (h2 : c ρ = .ok (.bl y) ρ) : mOrV a c ρ = .ok (.bl (x || y)) ρ := by
  cases x <;> simp [mOrV, M.bind, h, h2, M.ret]
theorem mIf_ok {α : Type} {e : α → D} {c : M Bool} {a b : M D} {x : Bool} {y z : α} {ρ : Env} (h : c ρ = .ok x ρ) (h2 : a ρ = .ok (e y) ρ) (h3 : b ρ = .ok (e z) ρ) : mIf c a b ρ = .ok (e (if x = true then y else z)) ρ := by
  cases x <;> simp [mIf, M.bind, h, h2, h3]
theorem ch_ok {f g : D → D → Option D} {a b c : M D} {x y z : D} {p q : Bool} {ρ : Env} (h1 : a ρ = .ok x ρ) (h2 : b ρ = .ok y ρ) (h3 : c ρ = .ok z ρ) (h4 : f x y = some (.bl p)) (h5 : g y z = some (.bl q)) : mCh f g a b c ρ = .ok (.bl (p && q)) ρ := by
  cases p <;> simp [mCh, M.bind, M.opt, M.ret, h1, h2, h3, h4, h5]
theorem m2L_okT {f : D → D → Option D} {i : Nat} {b : M D} {x y z : D} {ρ : Env} (h1 : ρ[i]? = some (some x)) (h2 : b ρ = .ok y ρ) (h3 : f x y = some z) : m2L f i b ρ = .ok z ρ := by
  have : mV i ρ = .ok x ρ := by unfold mV; rw [h1]
  simp only [m2L, M.bind, this, h2, h3, M.opt]
theorem it_ok {a : M D} {d : D} {ds : List D} {ρ : Env} (h : a ρ = .ok d ρ) (h2 : dIt d = some ds) : mIt a ρ = .ok ds ρ := by simp only [mIt, M.bind, h, h2, M.opt]
theorem en_ok {α : Type} {e : α → D} {a : M (List D)} {d : D} {xs : List α} {ρ : Env} (h : a ρ = .ok [d] ρ) (h2 : dSq d = some (xs.map e)) : mEn a ρ = .ok (enD (xs.map e)) ρ := by simp only [mEn, M.bind, h, d1Sq, h2, Option.map, M.opt]
theorem zp_ok {a : M (List D)} {d d2 : D} {xs ys : List D} {ρ : Env} (h : a ρ = .ok [d, d2] ρ) (h2 : dSq d = some xs) (h3 : dSq d2 = some ys) : mZp a ρ = .ok (zpD xs ys) ρ := by simp only [mZp, M.bind, h, dZp, h2, h3, M.opt]
/-- (number, thing) -/
def enL {α : Type} (xs : List α) : List (Int × α) := (List.range xs.length).zipWith (fun (k : Nat) x => ((k : Int), x)) xs
theorem enD_map {α : Type} {e : α → D} (xs : List α) : enD (xs.map e) = (enL xs).map (eP D.int e) := by
  unfold enD enL
  rw [List.map_zipWith, List.zipWith_map_right, List.length_map]
  rfl
theorem zpD_map {α β : Type} {e : α → D} {f : β → D} (xs : List α) (ys : List β) : zpD (xs.map e) (ys.map f) = (xs.zip ys).map (eP e f) := by
  unfold zpD
  rw [List.zipWith_map, List.zip, List.map_zipWith]
  rfl
theorem pt_ok {a : M D} {i : Int} {ρ : Env} (h : a ρ = .ok (.int i) ρ) : mPt a ρ = .ok (some i) ρ := by simp only [mPt, M.bind, h, dI, M.opt]
theorem pn_ok {ρ : Env} : (M.ret none : M (Option Int)) ρ = .ok none ρ := rfl
theorem sl_ok' {a : M D} {l h : M (Option Int)} {d z : D} {x y : Option Int} {ρ : Env} (h1 : a ρ = .ok d ρ) (h2 : l ρ = .ok x ρ) (h3 : h ρ = .ok y ρ) (h4 : dSl d x y = some z) : mSl a l h ρ = .ok z ρ := by simp only [mSl, M.bind, h1, h2, h3, h4, M.opt]
theorem slL_ok {i : Nat} {l h : M (Option Int)} {d z : D} {x y : Option Int} {ρ : Env} (h1 : ρ[i]? = some (some d)) (h2 : l ρ = .ok x ρ) (h3 : h ρ = .ok y ρ) (h4 : dSl d x y = some z) : mSlL i l h ρ = .ok z ρ := by
  have : mV i ρ = .ok d ρ := by unfold mV; rw [h1]
  simp only [mSlL, M.bind, this, h2, h3, h4, M.opt]
/-! ### operations -/
def opD (o : Option D) : O D := match o with
  | some d => .ok d
  | none => .no
def opB (o : Option D) : O Bool := match o with
  | some (.bl b) => .ok b
  | _ => .no
def opI (o : Option D) : O Int := match o with
  | some (.int b) => .ok b
  | _ => .no
def opS (o : Option D) : O Str := match o with
  | some (.str b) => .ok b
  | _ => .no
theorem os_D {o : Option D} : Os o eD (opD o) := by cases o <;> trivial
theorem os_B {o : Option D} : Os o D.bl (opB o) := by
  unfold opB
  split <;> trivial
theorem os_I {o : Option D} : Os o D.int (opI o) := by
  unfold opI
  split <;> trivial
theorem os_S {o : Option D} : Os o D.str (opS o) := by
  unfold opS
  split <;> trivial
def grd {α : Type} (p : Prop) [Decidable p] (a : α) : O α := if p then .ok a else .no
theorem os_grd {α δ : Type} {o : Option δ} {f : α → δ} {p : Prop} [Decidable p] {a : α} (h : p → o = some (f a)) : Os o f (grd p a) := by
  unfold grd
  split
  · exact h ‹_›
  · trivial
@[simp] theorem grd_t {α : Type} {p : Prop} [Decidable p] {a : α} (h : p) : grd p a = .ok a := if_pos h
theorem grd_ok {α : Type} {p : Prop} [Decidable p] {a b : α} (h : grd p a = .ok b) : p ∧ a = b := by
  unfold grd at h
  split at h
  · cases h; exact ⟨‹_›, rfl⟩
  · cases h
def ofO {α : Type} (o : Option α) : O α := match o with
  | some a => .ok a
  | none => .no
theorem os_of {α δ : Type} {o : Option δ} {f : α → δ} {x : Option α} (h : o = x.map f) : Os o f (ofO x) := by
  subst h
  cases x <;> trivial
@[simp] theorem ofO_some {α : Type} (a : α) : ofO (some a) = .ok a := rfl
/-- numbers -/
def mulI (i j : Int) : O Int := grd (CMul i j) (i * j)
theorem os_mul (i j : Int) : Os (dMul (.int i) (.int j)) D.int (mulI i j) := os_grd fun h => mul_ii h
def fdI (i j : Int) : O Int := grd (CDivN i j) (i.fdiv j)
theorem os_fd (i j : Int) : Os (dFd (.int i) (.int j)) D.int (fdI i j) := os_grd fun h => fd_ii h
def mdI (i j : Int) : O Int := grd (j ≠ 0) (i.fmod j)
theorem os_md (i j : Int) : Os (dMd (.int i) (.int j)) D.int (mdI i j) := os_grd fun h => md_ii h
def pwI (i j : Int) : O Int := grd (CPow i j) (i ^ j.toNat)
theorem os_pw (i j : Int) : Os (dPw (.int i) (.int j)) D.int (pwI i j) := os_grd fun h => by simp [dPw, dInt, h]
theorem pw_ii {i j : Int} (h : CPow i j) : dPw (.int i) (.int j) = some (.int (i ^ j.toNat)) := by simp [dPw, dInt, h]
def dmI (i j : Int) : O (Int × Int) := grd (CDiv i j) (i / j, i % j)
theorem os_dm (i j : Int) : Os (dDm [.int i, .int j]) (eP D.int D.int) (dmI i j) := os_grd fun h => dm_ii h
def absI (i : Int) : Int := if i < 0 then -i else i
def maxI (i j : Int) : Int := if j > i then j else i
def minI (i j : Int) : Int := if j < i then j else i
theorem neg_i (i : Int) : dNeg (.int i) = some (.int (-i)) := rfl
theorem abs_i (i : Int) : dAbs [.int i] = some (.int (absI i)) := rfl
theorem max_ii (i j : Int) : dMax2 [.int i, .int j] = some (.int (maxI i j)) := rfl
theorem min_ii (i j : Int) : dMin2 [.int i, .int j] = some (.int (minI i j)) := rfl
theorem not_b (b : Bool) : dNot (.bl b) = some (.bl (!b)) := rfl
theorem sum_l (xs : List Int) : dSum [eL D.int xs] = some (.int xs.sum) := by simp only [eL, dSum, dInts_map, Option.map]
theorem all_l (xs : List Bool) : dAll [eL D.bl xs] = some (.bl (xs.all id)) := by simp only [eL, dAll, dBls_map, Option.map]
theorem any_l (xs : List Bool) : dAny [eL D.bl xs] = some (.bl (xs.any id)) := by simp only [eL, dAny, dBls_map, Option.map]
def maxO : List Int → O Int
  | n :: ns => .ok (maxL n ns)
  | [] => .no
def minO : List Int → O Int
  | n :: ns => .ok (minL n ns)
  | [] => .no
theorem os_max (xs : List Int) : Os (dMaxL [eL D.int xs]) D.int (maxO xs) := by
  simp only [eL, dMaxL, dInts_map]
  cases xs with
  | nil => trivial
  | cons x xs => exact rfl
theorem os_min (xs : List Int) : Os (dMinL [eL D.int xs]) D.int (minO xs) := by
  simp only [eL, dMinL, dInts_map]
  cases xs with
  | nil => trivial
  | cons x xs => exact rfl
section
variable {α : Type} {e : α → D}
theorem len_l (xs : List α) : dLen [eL e xs] = some (.int xs.length) := by simp [eL, dLen]
theorem len_t (xs : List α) : dLen [eT e xs] = some (.int xs.length) := by simp [eT, dLen]
theorem len_sc (xs : List Int) : dLen [.scr xs] = some (.int xs.length) := rfl
def lenS (x : Str) : O Int := grd (x.length ≤ sizeLine) x.length
theorem os_lenS (x : Str) : Os (dLen [.str x]) D.int (lenS x) := os_grd fun h => by simp [dLen, h]
def ixL (xs : List α) (i : Int) : O α := ofO (atI xs i)
theorem os_ixL (xs : List α) (i : Int) : Os (dIx (eL e xs) (.int i)) e (ixL xs i) := os_of (by simp only [eL, dIx, atI_map])
theorem os_ixT (xs : List α) (i : Int) : Os (dIx (eT e xs) (.int i)) e (ixL xs i) := os_of (by simp only [eT, dIx, atI_map])
theorem os_ixC (xs : List Int) (i : Int) : Os (dIx (.scr xs) (.int i)) D.int (ixL xs i) := os_of rfl
def ixS (x : Str) (i : Int) : O Str := if x.length ≤ sizeLine then ofO ((atI x.cps.toList i).map fun c => ⟨#[c]⟩) else .no
theorem os_ixS (x : Str) (i : Int) : Os (dIx (.str x) (.int i)) D.str (ixS x i) := by
  unfold ixS
  split
  · rename_i h
    refine os_of ?_
    simp only [dIx, h, if_true, Option.map_map]
    rfl
  · trivial
theorem sl_l (xs : List α) (lo hi : Option Int) : dSl (eL e xs) lo hi = some (eL e (cutL xs lo hi)) := by simp only [eL, dSl, cut_map]
theorem sl_t (xs : List α) (lo hi : Option Int) : dSl (eT e xs) lo hi = some (eT e (cutL xs lo hi)) := by simp only [eT, dSl, cut_map]
theorem sl_sc (xs : List Int) (lo hi : Option Int) : dSl (.scr xs) lo hi = some (eL D.int (cutL xs lo hi)) := rfl
def slS (x : Str) (lo hi : Option Int) : O Str := grd (x.length ≤ sizeLine) (cutS x lo hi)
theorem os_slS (x : Str) (lo hi : Option Int) : Os (dSl (.str x) lo hi) D.str (slS x lo hi) := os_grd fun h => by simp only [dSl, h, if_true]
def catL (xs ys : List α) : O (List α) := grd (xs.length + ys.length ≤ sizeLine) (xs ++ ys)
theorem os_catL (xs ys : List α) : Os (dAdd (eL e xs) (eL e ys)) (eL e) (catL xs ys) := os_grd fun h => by simp [eL, dAdd, h]
theorem os_catT (xs ys : List α) : Os (dAdd (eT e xs) (eT e ys)) (eT e) (catL xs ys) := os_grd fun h => by simp [eT, dAdd, h]
def addS (x y : Str) : O Str := grd (x.length + y.length ≤ sizeLine) (x ++ y)
theorem os_addS (x y : Str) : Os (dAdd (.str x) (.str y)) D.str (addS x y) := os_grd fun h => by simp [dAdd, h]
def repL (xs : List α) (k : Int) : O (List α) := grd (-(2 ^ 63) ≤ k ∧ k < 2 ^ 63 ∧ xs.length * k.toNat ≤ sizeLine) (List.replicate k.toNat xs).flatten
theorem os_repL (xs : List α) (k : Int) : Os (dMul (eL e xs) (.int k)) (eL e) (repL xs k) := os_grd fun h => by simp only [eL, dMul, List.length_map, h, and_self, if_true]; simp [List.map_flatten]
theorem rv_l (xs : List α) : dRv (eL e xs) = some (eL e xs.reverse) := by simp [eL, dRv]
theorem rv_t (xs : List α) : dRv (eT e xs) = some (eT e xs.reverse) := by simp [eT, dRv]
theorem list_l (xs : List α) : dListOf [eL e xs] = some (eL e xs) := rfl
theorem list_t (xs : List α) : dListOf [eT e xs] = some (eL e xs) := rfl
theorem list_sc (xs : List Int) : dListOf [.scr xs] = some (eL D.int xs) := rfl
theorem tuple_l (xs : List α) : dTupOf [eL e xs] = some (eT e xs) := rfl
theorem tuple_t (xs : List α) : dTupOf [eT e xs] = some (eT e xs) := rfl
theorem tuple_sc (xs : List Int) : dTupOf [.scr xs] = some (eT D.int xs) := rfl
theorem it_l (xs : List α) : dIt (eL e xs) = some (xs.map e) := rfl
theorem it_t (xs : List α) : dIt (eT e xs) = some (xs.map e) := rfl
theorem it_sc (xs : List Int) : dIt (.scr xs) = some (xs.map D.int) := rfl
theorem sq_l (xs : List α) : dSq (eL e xs) = some (xs.map e) := rfl
theorem sq_t (xs : List α) : dSq (eT e xs) = some (xs.map e) := rfl
theorem sq_sc (xs : List Int) : dSq (.scr xs) = some (xs.map D.int) := rfl
/-- the signs of a text -/
def sgs (x : Str) : List Str := x.cps.toList.map fun c => ⟨#[c]⟩
theorem it_s (x : Str) : dIt (.str x) = some ((sgs x).map D.str) := by simp [dIt, sgs]
/-- any thing gone through -/
def itD (d : D) : O (List D) := ofO (dIt d)
theorem os_itD (d : D) : Os (dIt d) (List.map eD) (itD d) := os_of (by
  cases dIt d with
  | none => rfl
  | some xs => exact congrArg some (List.map_id xs).symm)
def sqD (d : D) : O (List D) := ofO (dSq d)
theorem os_sqD (d : D) : Os (dSq d) (List.map eD) (sqD d) := os_of (by
  cases dSq d with
  | none => rfl
  | some xs => exact congrArg some (List.map_id xs).symm)
def joinO (a : Str) (xs : List Str) : O Str := grd ((xs.map (·.length)).sum + xs.length * a.length ≤ 16777216) (Txt.join a xs)
theorem os_joinL (a : Str) (xs : List Str) : Os (dJo (.str a) (eL D.str xs)) D.str (joinO a xs) := os_grd fun h => by simp only [eL, dJo, dStrs_map, Option.bind]; rw [if_pos h]
theorem os_joinT (a : Str) (xs : List Str) : Os (dJo (.str a) (eT D.str xs)) D.str (joinO a xs) := os_grd fun h => by simp only [eT, dJo, dStrs_map, Option.bind]; rw [if_pos h]
/-- one sign in a text -/
def inS (x y : Str) : O Bool := match x.cps.toList with
  | [c] => .ok (decide (c ∈ y.cps.toList))
  | _ => .no
theorem os_inS (x y : Str) : Os (dIn (.str x) (.str y)) D.bl (inS x y) := by
  unfold inS
  split
  · rename_i c h
    show dIn _ _ = _
    simp [dIn, dOr2, dSg, h]
  · trivial
def ninS (x y : Str) : O Bool := match x.cps.toList with
  | [c] => .ok (!decide (c ∈ y.cps.toList))
  | _ => .no
theorem os_ninS (x y : Str) : Os (dNin (.str x) (.str y)) D.bl (ninS x y) := by
  unfold ninS
  split
  · rename_i c h
    show dNin _ _ = _
    simp [dNin, dOr2, dSg, h]
  · trivial
end
def strI (i : Int) : O Str := opS (dStr [.int i])
def fmI (i : Int) : O Str := opS (dFm (.int i))
def fmS (x : Str) : O Str := grd (x.length ≤ sizeLine) x
theorem os_fmS (x : Str) : Os (dFm (.str x)) D.str (fmS x) := os_grd fun h => by simp only [dFm, h, if_true]
def reprO (d : D) : O Str := opS (dRepr [d])
/-! ranges -/
def rng (lo hi : Int) : List Int := (List.range (hi - lo).toNat).map fun (k : Nat) => lo + k
theorem rngD_rng (lo hi : Int) : rngD lo hi = (rng lo hi).map D.int := by
  unfold rngD rng
  rw [List.map_map]
  rfl
def rg1 (n : Int) : O (List Int) := grd (-(2 ^ 62) ≤ n ∧ n < 2 ^ 62) (rng 0 n)
theorem os_rg1 (n : Int) : Os (dRng1 [.int n]) (List.map D.int) (rg1 n) := os_grd fun h => by simp only [dRng1, h, if_true, rngD_rng]; rfl
def rg2 (m n : Int) : O (List Int) := grd (-(2 ^ 62) ≤ m ∧ m < 2 ^ 62 ∧ -(2 ^ 62) ≤ n ∧ n < 2 ^ 62) (rng m n)
theorem os_rg2 (m n : Int) : Os (dRng2 [.int m, .int n]) (List.map D.int) (rg2 m n) := os_grd fun h => by simp only [dRng2, h, if_true, rngD_rng]; rfl
theorem rg1_lit {n : Int} (h : -(2 ^ 62) ≤ n ∧ n < 2 ^ 62) : dRng1 [.int n] = some ((rng 0 n).map D.int) := by simp only [dRng1, h, if_true, rngD_rng]; rfl
instance (m n : Int) : Decidable (RgOk m n) := by unfold RgOk; exact inferInstance
def lrI (n : Int) : O (List Int) := grd (RgOk 0 n) (rng 0 n)
theorem os_lr (n : Int) : Os (dLr (.int n)) (eL D.int) (lrI n) := os_grd fun h => by simp only [dLr, h, if_true, rngD_rng]; rfl
/-! kinds -/
def isK (T : Tk) (d : D) : O Bool := ofO (isTk T d)
theorem os_isK (T : Tk) (d : D) : Os (dIs T d) D.bl (isK T d) := os_of rfl
def isC (c : Nat) (d : D) : O Bool := opB (dIo c d)
theorem isn_D (d : D) : dIsN false d .non = some (.bl (isN d)) := rfl
theorem isnn_D (d : D) : dIsN true d .non = some (.bl (!isN d)) := rfl
def atO (j c : Nat) (d : D) : O D := opD (dAt j c d)
/-! ### methods of lists -/
section
variable {R β α γ δ : Type} [Rz R] {E : Env → Prop} {P : β → R → Prop} {t : O β} {ρ : Env}
def mlK (i : Nat) (h : D → List D → Option (D × D)) (ds : List D) : M D := fun ρ => match ρ[i]? with
  | some (some d) => match h d ds with
    | some (z, d') => .ok z (ρ.set i (some d'))
    | none => .no
  | _ => .no
theorem Sm.mMl {i : Nat} {h : D → List D → Option (D × D)} {ms : M (List D)} {k : D → Env → R} {xs : List D} (h0 : ρ[i]? = some (some (.lst xs))) (q : Sm E P (sqR (ms ρ) fun ds ρ1 => sqR (mlK i h ds ρ1) k) t) : Sm E P (sqR (mMl i h ms ρ) k) t := by
  have : G.mMl i h ms ρ = (ms.bind (G.mlK i h)) ρ := by
    have hv : mV i ρ = .ok (.lst xs) ρ := by unfold mV; rw [h0]
    simp only [G.mMl, h0, isLst, if_true, mMt, M.bind, hv]
    rfl
  rw [this, sqR_bind]
  exact q
theorem Sm.mlK {i : Nat} {h : D → List D → Option (D × D)} {ds : List D} {d : D} {k : D → Env → R} {f : γ → D × D} {t1 : O γ} {t2 : γ → O β} (h0 : ρ[i]? = some (some d)) (ho : Os (h d ds) f t1) (q : ∀ b, Sm E P (k (f b).1 (ρ.set i (some (f b).2))) (t2 b)) : Sm E P (sqR (G.mlK i h ds ρ) k) (t1.bind t2) := by
  unfold G.mlK
  rw [h0]
  cases t1 with
  | ok b =>
    have e : h d ds = _ := ho
    simp only [e]
    exact q b
  | er x => exact ho.elim
  | no => exact Sm.nil
def appL (xs : List α) (y : α) : O (List α) := grd (xs.length < sizeLine) (xs ++ [y])
theorem os_app {e : α → D} (xs : List α) (y : α) : Os (hAppend (eL e xs) [e y]) (fun b => (D.non, eL e b)) (appL xs y) := os_grd fun h => by simp [eL, hAppend, h]
def extL (xs ys : List α) : O (List α) := grd (xs.length + ys.length ≤ sizeLine) (xs ++ ys)
theorem os_ext {e : α → D} (xs ys : List α) : Os (hExtend (eL e xs) [eL e ys]) (fun b => (D.non, eL e b)) (extL xs ys) := os_grd fun h => by simp [eL, hExtend, h]
def popL (xs : List α) : O (α × List α) := ofO ((xs[xs.length - 1]?).map fun y => (y, xs.dropLast))
theorem os_pop {e : α → D} (xs : List α) : Os (hPop (eL e xs) []) (fun b => (e b.1, eL e b.2)) (popL xs) := os_of (by
  simp only [eL, hPop, List.length_map, List.getElem?_map, Option.map_map, ← List.map_dropLast]
  rfl)
def popAt (xs : List α) (i : Int) : O (α × List α) := ofO (if -(2 ^ 63) ≤ i ∧ i < 2 ^ 63 then (seqIndex? i xs.length).bind fun k => (xs[k]?).map fun y => (y, xs.eraseIdx k) else none)
theorem eraseIdx_map {α β : Type} (f : α → β) : ∀ (xs : List α) (k : Nat), (xs.map f).eraseIdx k = (xs.eraseIdx k).map f
  | [], k => rfl
  | x :: xs, 0 => rfl
  | x :: xs, k + 1 => by simp [eraseIdx_map f xs k]
theorem os_popAt {e : α → D} (xs : List α) (i : Int) : Os (hPopAt (eL e xs) [.int i]) (fun b => (e b.1, eL e b.2)) (popAt xs i) := os_of (by
  simp only [eL, hPopAt, List.length_map]
  split
  · rename_i h
    cases seqIndex? i xs.length with
    | none => rfl
    | some k =>
      simp only [Option.bind, List.getElem?_map, Option.map_map, eraseIdx_map]
      rfl
  · rfl)
/-! ### attributes stored -/
def flO (c j : Nat) (o d : D) : O D := match o with
  | .obj c' fs => if c' = c then (if j < fs.length then .ok (.obj c (fs.set j d)) else if j = fs.length then .ok (.obj c (fs ++ [d])) else .no) else .no
  | _ => .no
def flK (i c j : Nat) (d : D) : MS := fun ρ => match ρ[i]? with
  | some (some (.obj c' fs)) => if c' = c then (if j < fs.length then .nx (ρ.set i (some (.obj c (fs.set j d)))) else if j = fs.length then .nx (ρ.set i (some (.obj c (fs ++ [d])))) else .no) else .no
  | _ => .no
theorem Sm.fl {P : β → SR → Prop} {i c j : Nat} {m : M D} {k : Env → SR} (q : Sm E P (sqR (m ρ) fun d ρ1 => sqS (flK i c j d ρ1) k) t) : Sm E P (sqS (mFl i c j m ρ) k) t := by unfold mFl; rw [sqS_of]; exact q
theorem Sm.flK {P : β → SR → Prop} {i c j : Nat} {o d : D} {k : Env → SR} {t2 : D → O β} (h0 : ρ[i]? = some (some o)) (q : ∀ o', Sm E P (k (ρ.set i (some o'))) (t2 o')) : Sm E P (sqS (G.flK i c j d ρ) k) ((flO c j o d).bind t2) := by
  unfold G.flK flO
  rw [h0]
  cases o with
  | obj c' fs =>
    simp only
    split
    · split
      · exact q _
      · split
        · exact q _
        · exact Sm.nil
    · exact Sm.nil
  | _ => exact Sm.nil
/-! ### comprehensions -/
theorem Sm.mLc {vs : List Nat} {it : M (List D)} {g : MG} {tt : M Bool} {e : M D} {k : D → Env → R} (q : Sm E P (sqR (it ρ) fun ds ρ1 => sqR (lcA vs g tt e ds ρ1) k) t) : Sm E P (sqR (mLc vs it g tt e ρ) k) t := by unfold G.mLc; rw [sqR_bind]; exact q
def lcS {σ : Type} (f : α → σ → O (Option γ × σ)) : List α → σ → O (List γ × σ)
  | [], s => .ok ([], s)
  | x :: xs, s => (noX (f x s)).bind fun p => (lcS f xs p.2).bind fun q => .ok (match p.1 with
    | some y => (y :: q.1, q.2)
    | none => q)
/-- a comprehension that changes something, or that may fail -/
def lcW {σ : Type} (f : α → σ → O (Option γ × σ)) (xs : List α) (s : σ) : O (List γ × σ) := if xs.length ≤ sizeLine then lcS f xs s else .no
/-- .. that changes nothing -/
def lcE (f : α → O (Option γ)) (xs : List α) : O (List γ) := (lcW (fun x (_ : Unit) => (f x).bind fun o => .ok (o, ())) xs ()).bind fun p => .ok p.1
def lcO (f : α → O γ) (xs : List α) : O (List γ) := (lcW (fun x (_ : Unit) => (f x).bind fun o => .ok (some o, ())) xs ()).bind fun p => .ok p.1
def lcM (f : α → γ) (xs : List α) : O (List γ) := grd (xs.length ≤ sizeLine) (xs.map f)
def lcF (b : α → Bool) (f : α → γ) (xs : List α) : O (List γ) := grd (xs.length ≤ sizeLine) ((xs.filter b).map f)
def lcU (tt : M Bool) (e : M D) (ρ1 : Env) : Rs (Option D) := sqR (tt ρ1) fun b ρ2 => if b = true then sqR (e ρ2) fun y ρ3 => .ok (some y) ρ3 else .ok none ρ2
theorem lcT_U {vs : List Nat} {g : MG} {tt : M Bool} {e : M D} {d : D} {ρ ρ1 ρ2 : Env} {o : Option D} (hg : g d (wpE ρ vs) = some ρ1) (h : lcU tt e ρ1 = .ok o ρ2) : lcT vs g tt e d ρ = .ok o ρ2 := by
  unfold lcT
  rw [hg]
  unfold lcU sqR at h
  simp only
  cases ht : tt ρ1 with
  | ok b ρ3 =>
    rw [ht] at h
    simp only at h ⊢
    cases b with
    | true =>
      simp only [if_true] at h ⊢
      cases he : e ρ3 with
      | ok y ρ4 => rw [he] at h; cases h; rfl
      | er x ρ4 => rw [he] at h; cases h
      | no => rw [he] at h; cases h
    | false =>
      simp only [Bool.false_eq_true, if_false] at h ⊢
      exact h
  | er x ρ3 => rw [ht] at h; cases h
  | no => rw [ht] at h; cases h
theorem lcS_run {σ : Type} {vs : List Nat} {g : MG} {tt : M Bool} {e : M D} {ex : α → D} {ey : γ → D} {en : σ → Env} {ρ1 : α → σ → Env} {f : α → σ → O (Option γ × σ)}
    (hg : ∀ x s, g (ex x) (wpE (en s) vs) = some (ρ1 x s))
    (step : ∀ x s, Sm (fun _ => True) (fun (p : Option γ × σ) r => ∃ ρ', r = .ok (p.1.map ey) ρ' ∧ wpE ρ' vs = wpE (en p.2) vs) (lcU tt e (ρ1 x s)) (f x s)) :
    ∀ (xs : List α) (s : σ) (ρ : Env) (acc : List D) (q : List γ × σ), wpE ρ vs = wpE (en s) vs → acc.length + xs.length ≤ sizeLine → lcS f xs s = .ok q → ∃ ρ', lcG vs g tt e acc (xs.map ex) ρ = .ok (acc ++ q.1.map ey) ρ' ∧ wpE ρ' vs = wpE (en q.2) vs
  | [], s, ρ, acc, q, hw, hl, h => by
    cases h
    exact ⟨ρ, by simp [lcG, M.ret], hw⟩
  | x :: xs, s, ρ, acc, q, hw, hl, h => by
    unfold lcS at h
    have hs := step x s
    cases hf : f x s with
    | ok p =>
      rw [hf] at hs h
      unfold Sm SmB at hs
      obtain ⟨ρ2, e1, h1⟩ := hs
      simp only [noX, O.ok_bind] at h
      obtain ⟨q2, e2, h⟩ := bind_ok h
      have e3 : lcT vs g tt e (ex x) ρ = .ok (p.1.map ey) ρ2 := by
        rw [lcT_cong hw]
        exact lcT_U (hg x s) e1
      rw [List.map_cons, lcG]
      simp only [e3]
      cases hp : p.1 with
      | none =>
        rw [hp] at h
        cases h
        obtain ⟨ρ', e4, h4⟩ := lcS_run hg step xs p.2 ρ2 acc q2 h1 (by simp at hl; omega) e2
        exact ⟨ρ', e4, h4⟩
      | some y =>
        rw [hp] at h
        cases h
        obtain ⟨ρ', e4, h4⟩ := lcS_run hg step xs p.2 ρ2 (acc ++ [ey y]) q2 h1 (by simp at hl ⊢; omega) e2
        refine ⟨ρ', ?_, h4⟩
        simp only [Option.map]
        rw [if_pos (by simp at hl; omega), e4]
        simp
    | er z => rw [hf] at h; cases h
    | no => rw [hf] at h; cases h
theorem lcW_ok {σ : Type} {f : α → σ → O (Option γ × σ)} {xs : List α} {s : σ} {q : List γ × σ} (h : lcW f xs s = .ok q) : xs.length ≤ sizeLine ∧ lcS f xs s = .ok q := by
  unfold lcW at h
  split at h
  · exact ⟨‹_›, h⟩
  · cases h
theorem noX_er {α : Type} {m : O α} {x : Ex} : noX m ≠ .er x := by cases m <;> simp [noX]
theorem lcS_er {σ : Type} {f : α → σ → O (Option γ × σ)} {z : Ex} : ∀ {xs : List α} {s : σ}, lcS f xs s ≠ .er z
  | [], s, h => by cases h
  | x :: xs, s, h => by
    unfold lcS at h
    rcases bind_er h with h | ⟨p, _, h⟩
    · exact noX_er h
    · rcases bind_er h with h | ⟨q, _, h⟩
      · exact lcS_er h
      · cases h
theorem lcW_er {σ : Type} {f : α → σ → O (Option γ × σ)} {xs : List α} {s : σ} {z : Ex} : lcW f xs s ≠ .er z := by
  unfold lcW
  split
  · exact lcS_er
  · simp
theorem Sm.lcW {σ : Type} {vs : List Nat} {g : MG} {tt : M Bool} {e : M D} {ex : α → D} {ey : γ → D} {en : σ → Env} {ρ1 : α → σ → Env} {f : α → σ → O (Option γ × σ)} {k : D → Env → R} {t2 : List γ × σ → O β}
    (hg : ∀ x s, g (ex x) (wpE (en s) vs) = some (ρ1 x s))
    (step : ∀ x s, Sm (fun _ => True) (fun (p : Option γ × σ) r => ∃ ρ', r = .ok (p.1.map ey) ρ' ∧ wpE ρ' vs = wpE (en p.2) vs) (lcU tt e (ρ1 x s)) (f x s))
    (xs : List α) (s : σ) (hr : ∀ ρ' s', wpE ρ' vs = wpE (en s') vs → rsE ρ' (en s) vs = en s') (q : ∀ p, Sm E P (k (eL ey p.1) (en p.2)) (t2 p)) : Sm E P (sqR (lcA vs g tt e (xs.map ex) (en s)) k) ((G.lcW f xs s).bind t2) := by
  cases hw : G.lcW f xs s with
  | ok p =>
    obtain ⟨hl, hs⟩ := lcW_ok hw
    obtain ⟨ρ', e1, h1⟩ := lcS_run hg step xs s (en s) [] p rfl (by simpa using hl) hs
    have e2 : lcA vs g tt e (xs.map ex) (en s) = .ok (eL ey p.1) (en p.2) := by
      unfold lcA
      rw [e1]
      simp only [List.nil_append, hr ρ' p.2 h1]
      rfl
    rw [e2]
    exact q p
  | er z => exact absurd hw lcW_er
  | no => exact Sm.nil
theorem lcE_b {f : α → O (Option γ)} {xs : List α} {t2 : List γ → O β} : (lcE f xs).bind t2 = (G.lcW (fun x (_ : Unit) => (f x).bind fun o => .ok (o, ())) xs ()).bind fun p => t2 p.1 := by
  unfold lcE
  rw [O.bind_assoc]
  rfl
theorem lcO_b {f : α → O γ} {xs : List α} {t2 : List γ → O β} : (lcO f xs).bind t2 = (G.lcW (fun x (_ : Unit) => (f x).bind fun o => .ok (some o, ())) xs ()).bind fun p => t2 p.1 := by
  unfold lcO
  rw [O.bind_assoc]
  rfl
/-- .. without changes -/
theorem Sm.lcE {vs : List Nat} {g : MG} {tt : M Bool} {e : M D} {ex : α → D} {ey : γ → D} {ρ1 : α → Env} {f : α → O (Option γ)} {k : D → Env → R} {t2 : List γ → O β}
    (hg : ∀ x, g (ex x) (wpE ρ vs) = some (ρ1 x)) (hw : ∀ x, wpE (ρ1 x) vs = wpE ρ vs)
    (step : ∀ x, Sm (fun _ => True) (fun (p : Option γ) r => r = .ok (p.map ey) (ρ1 x)) (lcU tt e (ρ1 x)) (f x))
    (xs : List α) (q : ∀ p, Sm E P (k (eL ey p) ρ) (t2 p)) : Sm E P (sqR (lcA vs g tt e (xs.map ex) ρ) k) ((G.lcE f xs).bind t2) := by
  rw [lcE_b]
  refine Sm.lcW (en := fun _ => ρ) (ρ1 := fun x _ => ρ1 x) (ey := ey) (fun x _ => hg x) (fun x _ => ?_) xs () (fun ρ' _ h => rsE_back h) (fun p => q p.1)
  have := step x
  unfold Sm SmB at this ⊢
  cases hf : f x with
  | ok o => rw [hf] at this; exact ⟨_, this, hw x⟩
  | er z => rw [hf] at this; exact this
  | no => trivial
theorem Sm.lcO {vs : List Nat} {g : MG} {e : M D} {ex : α → D} {ey : γ → D} {ρ1 : α → Env} {f : α → O γ} {k : D → Env → R} {t2 : List γ → O β}
    (hg : ∀ x, g (ex x) (wpE ρ vs) = some (ρ1 x)) (hw : ∀ x, wpE (ρ1 x) vs = wpE ρ vs)
    (step : ∀ x, Sm (fun _ => True) (fun (p : γ) r => r = .ok (ey p) (ρ1 x)) (e (ρ1 x)) (f x))
    (xs : List α) (q : ∀ p, Sm E P (k (eL ey p) ρ) (t2 p)) : Sm E P (sqR (lcA vs g mYes e (xs.map ex) ρ) k) ((G.lcO f xs).bind t2) := by
  rw [lcO_b]
  refine Sm.lcW (en := fun _ => ρ) (ρ1 := fun x _ => ρ1 x) (ey := ey) (fun x _ => hg x) (fun x _ => ?_) xs () (fun ρ' _ h => rsE_back h) (fun p => q p.1)
  have := step x
  show Sm _ _ (sqR (e (ρ1 x)) fun y ρ3 => Rs.ok (some y) ρ3) _
  unfold Sm SmB at this ⊢
  cases hf : f x with
  | ok o =>
    rw [hf] at this
    have this : e (ρ1 x) = _ := this
    exact ⟨_, by rw [this]; rfl, hw x⟩
  | er z =>
    rw [hf] at this
    obtain ⟨ρ', h1, h2⟩ := this
    exact ⟨ρ', by rw [h1]; rfl, h2⟩
  | no => trivial
theorem lcS_pure {f : α → Option γ} : ∀ (xs : List α), lcS (fun x (_ : Unit) => .ok (f x, ())) xs () = .ok (xs.filterMap f, ())
  | [] => rfl
  | x :: xs => by
    simp only [lcS, noX, O.ok_bind, lcS_pure xs]
    cases h : f x <;> simp [List.filterMap_cons, h]
theorem Sm.lcM {vs : List Nat} {g : MG} {e : M D} {ex : α → D} {ey : γ → D} {ρ1 : α → Env} {f : α → γ} {k : D → Env → R} {t2 : List γ → O β}
    (hg : ∀ x, g (ex x) (wpE ρ vs) = some (ρ1 x)) (hw : ∀ x, wpE (ρ1 x) vs = wpE ρ vs)
    (step : ∀ x, e (ρ1 x) = .ok (ey (f x)) (ρ1 x))
    (xs : List α) (q : ∀ p, Sm E P (k (eL ey p) ρ) (t2 p)) : Sm E P (sqR (lcA vs g mYes e (xs.map ex) ρ) k) ((G.lcM f xs).bind t2) := by
  have : (G.lcM f xs).bind t2 = (G.lcO (fun x => .ok (f x)) xs).bind t2 := by
    congr 1
    unfold G.lcM G.lcO G.lcW grd
    simp only [O.ok_bind]
    split
    · rw [lcS_pure (f := fun x => some (f x))]
      simp [List.filterMap_eq_map']
    · rfl
  rw [this]
  exact Sm.lcO (ey := ey) hg hw (fun x => Sm.done (b := f x) (step x)) xs q
theorem Sm.lcF {vs : List Nat} {g : MG} {tt : M Bool} {e : M D} {ex : α → D} {ey : γ → D} {ρ1 : α → Env} {b : α → Bool} {f : α → γ} {k : D → Env → R} {t2 : List γ → O β}
    (hg : ∀ x, g (ex x) (wpE ρ vs) = some (ρ1 x)) (hw : ∀ x, wpE (ρ1 x) vs = wpE ρ vs)
    (test : ∀ x, tt (ρ1 x) = .ok (b x) (ρ1 x)) (step : ∀ x, e (ρ1 x) = .ok (ey (f x)) (ρ1 x))
    (xs : List α) (q : ∀ p, Sm E P (k (eL ey p) ρ) (t2 p)) : Sm E P (sqR (lcA vs g tt e (xs.map ex) ρ) k) ((G.lcF b f xs).bind t2) := by
  have : (G.lcF b f xs).bind t2 = (G.lcE (fun x => .ok (if b x = true then some (f x) else none)) xs).bind t2 := by
    congr 1
    unfold G.lcF G.lcE G.lcW grd
    simp only [O.ok_bind]
    split
    · rw [lcS_pure]
      simp only [O.ok_bind]
      congr 1
      induction xs with
      | nil => rfl
      | cons x xs ih =>
        have ih := ih (by rename_i h; simp at h; omega)
        cases hb : b x <;> simp [List.filterMap_cons, List.filter_cons, hb, ih]
    · rfl
  rw [this]
  refine Sm.lcE (ey := ey) hg hw (fun x => ?_) xs q
  refine Sm.done ?_
  show lcU tt e (ρ1 x) = _
  unfold lcU
  rw [test x]
  cases hb : b x with
  | true => show sqR (e (ρ1 x)) _ = _; rw [step x]; rfl
  | false => rfl
end
end G
namespace G
open PySem PySem.Spec PyProof.Rows L2
theorem cst_d : Cst eD cD := ⟨fun d x h => by cases h; rfl, fun d x h => (by cases h), fun _ => rfl⟩
theorem eL_co {α β : Type} {e : α → D} {e' : β → D} {f : α → β} (h : ∀ x, e x = e' (f x)) (xs : List α) : eL e xs = eL e' (xs.map f) := by
  unfold eL
  rw [List.map_map]
  congr 1
  exact List.map_congr_left fun x _ => h x
theorem eT_co {α β : Type} {e : α → D} {e' : β → D} {f : α → β} (h : ∀ x, e x = e' (f x)) (xs : List α) : eT e xs = eT e' (xs.map f) := by
  unfold eT
  rw [List.map_map]
  congr 1
  exact List.map_congr_left fun x _ => h x
theorem os_zp {α β : Type} {e : α → D} {f : β → D} {x y : D} {oa : Option (List α)} {ob : Option (List β)} (ha : dSq x = oa.map (List.map e)) (hb : dSq y = ob.map (List.map f)) : Os (dZp [x, y]) (List.map (eP e f)) (ofO (oa.bind fun xs => ob.map fun ys => xs.zip ys)) := by
  unfold dZp
  simp only [ha, hb]
  cases oa with
  | none => trivial
  | some xs =>
    cases ob with
    | none => trivial
    | some ys => exact congrArg some (zpD_map xs ys)
theorem os_en {α : Type} {e : α → D} {x : D} {oa : Option (List α)} (ha : dSq x = oa.map (List.map e)) : Os ((d1Sq [x]).map enD) (List.map (eP D.int e)) (ofO (oa.map enL)) := by
  show Os ((dSq x).map enD) _ _
  rw [ha]
  cases oa with
  | none => trivial
  | some xs => exact congrArg some (enD_map xs)
theorem sqD_D (d : D) : dSq d = (dSq d).map (List.map eD) := by
  cases dSq d with
  | none => rfl
  | some xs => exact congrArg some (List.map_id xs).symm
theorem isn_O {α : Type} {e : α → D} (h : ∀ x, isN (e x) = false) (o : Option α) : dIsN false (eO e o) .non = some (.bl o.isNone) := by
  cases o with
  | none => rfl
  | some x => simp [eO, dIsN, h]
theorem isnn_O {α : Type} {e : α → D} (h : ∀ x, isN (e x) = false) (o : Option α) : dIsN true (eO e o) .non = some (.bl o.isSome) := by
  cases o with
  | none => rfl
  | some x => simp [eO, dIsN, h]
theorem cst_o {α : Type} {e : α → D} {c : D → O α} (h : Cst e c) (hn : ∀ x, isN (e x) = false) : Cst (eO e) (cO c) where
  sd d x q := by
    unfold cO at q
    split at q
    · cases q; rfl
    · obtain ⟨a, e1, q⟩ := bind_ok q
      cases q
      exact h.sd _ _ e1
  ne d x q := by
    unfold cO at q
    split at q
    · cases q
    · rcases bind_er q with q | ⟨a, _, q⟩
      · exact h.ne _ _ q
      · cases q
  cp x := by
    cases x with
    | none => rfl
    | some x =>
      have := hn x
      show cO c (e x) = _
      unfold cO
      split
      · rename_i h0; rw [h0] at this; cases this
      · rw [h.cp]; rfl
/-- an option taken as there -/
def getO {α : Type} (o : Option α) : O α := ofO o
theorem Sm.getO {R β γ : Type} [Rz R] {E : Env → Prop} {P : β → R → Prop} {r : Rs D} {k : D → Env → R} {ρ' : Env} {e : γ → D} {o : Option γ} {t2 : γ → O β} (h : r = .ok (eO e o) ρ') (q : ∀ x, Sm E P (k (e x) ρ') (t2 x)) : Sm E P (sqR r k) ((getO o).bind t2) := by
  subst h
  cases o with
  | none => exact Sm.nil
  | some x => exact q x
end G
namespace G
open PySem PySem.Spec PyProof.Rows L2
theorem Sm.ch {R β γ : Type} [Rz R] {E : Env → Prop} {P : β → R → Prop} {r : R} {e : γ → D} {c : D → O γ} {d : D} {t2 : γ → O β} (h : Cst e c) (q : ∀ x, d = e x → Sm E P r (t2 x)) : Sm E P r ((c d).bind t2) := by
  cases hc : c d with
  | ok x => exact q x (h.sd d x hc)
  | er x => exact (h.ne d x hc).elim
  | no => exact Sm.nil
/-- an attribute, taken as of a kind -/
def atC {γ : Type} (j k : Nat) (c : D → O γ) (d : D) : O γ := (ofO (dAt j k d)).bind c
theorem os_atC {γ : Type} {e : γ → D} {c : D → O γ} {j k : Nat} {d : D} (h : Cst e c) : Os (dAt j k d) e (atC j k c d) := by
  unfold atC
  cases dAt j k d with
  | none => trivial
  | some v =>
    show Os (some v) e (c v)
    cases hc : c v with
    | ok x => exact congrArg some (h.sd v x hc)
    | er x => exact (h.ne v x hc).elim
    | no => trivial
theorem Sm.opE {E : Env → Prop} {γ δ : Type} {o : Option δ} {ρ : Env} {f : γ → δ} {t : O γ} (h : Os o f t) : Sm E (fun b (r : Rs δ) => r = Rs.ok (f b) ρ) (sqR (M.opt o ρ) fun a ρ => Rs.ok a ρ) t := by
  cases t with
  | ok b =>
    have e : o = some (f b) := h
    subst e
    exact Sm.done rfl
  | er x => exact h.elim
  | no => exact Sm.nil
def opT (o : Option Bool) : O Bool := ofO o
theorem os_T {o : Option Bool} : Os o (fun b => b) (opT o) := os_of (by cases o <;> rfl)
theorem tru_l {α : Type} {e : α → D} (xs : List α) : dTru (eL e xs) = some (!xs.isEmpty) := by simp [eL, dTru]
theorem tru_t {α : Type} {e : α → D} (xs : List α) : dTru (eT e xs) = some (!xs.isEmpty) := by simp [eT, dTru]
def zpO {α β : Type} (oa : Option (List α)) (ob : Option (List β)) : O (List (α × β)) := ofO (oa.bind fun xs => ob.map fun ys => xs.zip ys)
theorem en_fin {α : Type} {e : α → D} {d : D} {xs : List α} (h : dSq d = some (xs.map e)) : (d1Sq [d]).map enD = some ((enL xs).map (eP D.int e)) := by
  show (dSq d).map enD = _
  rw [h]
  exact congrArg some (enD_map xs)
theorem zp_fin {α β : Type} {e : α → D} {f : β → D} {x y : D} {xs : List α} {ys : List β} (ha : dSq x = some (xs.map e)) (hb : dSq y = some (ys.map f)) : dZp [x, y] = some ((xs.zip ys).map (eP e f)) := by
  unfold dZp
  simp only [ha, hb]
  exact congrArg some (zpD_map xs ys)
theorem os_co2 {α δ : Type} {e : α → D} {a b a' b' : D} {f : D → D → Option D} {t : O δ} {g : δ → D} (h1 : a = a') (h2 : b = b') (h : Os (f a' b') g t) : Os (f a b) g t := by subst h1 h2; exact h
/-- a comprehension's clause -/
theorem Sm.lcUt {γ : Type} {E : Env → Prop} {Q : γ → Rs (Option D) → Prop} {tt : M Bool} {e : M D} {ρ1 : Env} {t : O γ} (h : Sm E Q (sqR (tt ρ1) fun b ρ2 => if b = true then sqR (e ρ2) fun y ρ3 => Rs.ok (some y) ρ3 else Rs.ok none ρ2) t) : Sm E Q (lcU tt e ρ1) t := h
theorem Sm.lcUy {γ : Type} {E : Env → Prop} {Q : γ → Rs (Option D) → Prop} {e : M D} {ρ1 : Env} {t : O γ} (h : Sm E Q (sqR (e ρ1) fun y ρ3 => Rs.ok (some y) ρ3) t) : Sm E Q (lcU mYes e ρ1) t := h
theorem Sm.lcI {γ : Type} {E : Env → Prop} {Q : γ → Rs (Option D) → Prop} {e : M D} {b : Bool} {ρ2 : Env} {t : O γ} {b0 : γ} (h : b = true → Sm E Q (sqR (e ρ2) fun y ρ3 => Rs.ok (some y) ρ3) t) (h0 : Q b0 (.ok none ρ2)) : Sm E Q (if b = true then sqR (e ρ2) fun y ρ3 => Rs.ok (some y) ρ3 else Rs.ok none ρ2) (if b = true then t else .ok b0) := by
  cases b with
  | true => exact h rfl
  | false => exact Sm.done h0
theorem rsE_b2 {ρ ρ0 ρ1 : Env} {vs : List Nat} (hr : rsE ρ1 ρ0 vs = ρ1) (h : wpE ρ vs = wpE ρ1 vs) : rsE ρ ρ0 vs = ρ1 := by
  have key : ∀ (ρ ρ' : Env), wpE ρ vs = wpE ρ' vs → rsE ρ ρ0 vs = rsE ρ' ρ0 vs := by
    intro ρ ρ' h
    have hl : ρ.length = ρ'.length := by
      have := congrArg List.length h
      rwa [wpE_len, wpE_len] at this
    have aux : ∀ (ρ : Env) (us : List Nat) (i : Nat), (rsE ρ ρ0 us)[i]? = if i ∈ us then (if i < ρ.length then some (ρ0[i]?.getD none) else none) else ρ[i]? := by
      intro ρ us
      induction us with
      | nil => intro i; simp [rsE]
      | cons v us ih =>
        intro i
        unfold rsE
        by_cases e : v = i
        · subst e
          simp only [List.mem_cons, true_or, if_true]
          by_cases hl : v < ρ.length
          · rw [List.getElem?_set_self (by rw [rsE_len]; exact hl), if_pos hl]
          · rw [List.getElem?_eq_none (by rw [List.length_set, rsE_len]; omega), if_neg hl]
        · rw [List.getElem?_set_ne e, ih i]
          simp only [List.mem_cons, show (i = v) = False from eq_false fun z => e z.symm, false_or]
    refine List.ext_getElem? fun i => ?_
    rw [aux, aux]
    by_cases hi : i ∈ vs
    · rw [if_pos hi, if_pos hi, hl]
    · rw [if_neg hi, if_neg hi]
      have := congrArg (fun l => l[i]?) h
      simpa only [wpE_out hi] using this
  rw [key ρ ρ1 h, hr]
end G
namespace G
open PySem PySem.Spec PyProof.Rows L2
theorem tupIf {n : Nat} {ds : List D} (hl : ds.length = n) (h : n ≤ sizeLine) : (if ds.length ≤ sizeLine then some (D.tup ds) else none) = some (.tup ds) := if_pos (by omega)
theorem lstIf {n : Nat} {ds : List D} (hl : ds.length = n) (h : n ≤ sizeLine) : (if ds.length ≤ sizeLine then some (D.lst ds) else none) = some (.lst ds) := if_pos (by omega)
end G
namespace G
theorem all2 {α β : Type} {p : α × β → Prop} (h : ∀ a b, p (a, b)) : ∀ x, p x := fun x => h x.1 x.2
theorem all3 {α β γ : Type} {p : α × β × γ → Prop} (h : ∀ a b c, p (a, b, c)) : ∀ x, p x := fun x => h x.1 x.2.1 x.2.2
theorem all4 {α β γ δ : Type} {p : α × β × γ × δ → Prop} (h : ∀ a b c d, p (a, b, c, d)) : ∀ x, p x := fun x => h x.1 x.2.1 x.2.2.1 x.2.2.2
theorem all5 {α β γ δ ε : Type} {p : α × β × γ × δ × ε → Prop} (h : ∀ a b c d e, p (a, b, c, d, e)) : ∀ x, p x := fun x => h x.1 x.2.1 x.2.2.1 x.2.2.2.1 x.2.2.2.2
theorem all6 {α β γ δ ε ζ : Type} {p : α × β × γ × δ × ε × ζ → Prop} (h : ∀ a b c d e f, p (a, b, c, d, e, f)) : ∀ x, p x := fun x => h x.1 x.2.1 x.2.2.1 x.2.2.2.1 x.2.2.2.2.1 x.2.2.2.2.2
end G
/-! T3: reckoning with typed programs. -/
namespace G
open PySem PySem.Spec PyProof.Rows L2
/-- it ends well, with what is asked -/
def Ok {α : Type} (m : O α) (Q : α → Prop) : Prop := ∃ a, m = .ok a ∧ Q a
section
variable {α β γ σ : Type} {m : O α} {f : α → O β} {P P' : α → Prop} {Q : β → Prop}
theorem Ok.bd (h : Ok m P) (k : ∀ a, P a → Ok (f a) Q) : Ok (m.bind f) Q := by
  obtain ⟨a, e, h⟩ := h
  subst e
  exact k a h
theorem Ok.ret {a : α} (h : P a) : Ok (.ok a) P := ⟨a, rfl, h⟩
theorem Ok.nx {a : α} (h : Ok (f a) Q) : Ok ((O.ok a).bind f) Q := h
theorem Ok.imp (h : Ok m P) (k : ∀ a, P a → P' a) : Ok m P' := by
  obtain ⟨a, e, h⟩ := h
  exact ⟨a, e, k a h⟩
theorem Ok.eq {a : α} (h : Ok m (· = a)) : m = .ok a := by
  obtain ⟨b, e, h⟩ := h
  rw [e, h]
theorem Ok.of {a : α} (h : m = .ok a) (k : P a) : Ok m P := ⟨a, h, k⟩
theorem Ok.grd {p : Prop} [Decidable p] {a : α} (h : p) (k : P a) : Ok (grd p a) P := ⟨a, if_pos h, k⟩
theorem Ok.ite {c : Bool} {a b : O α} (ha : c = true → Ok a P) (hb : c = false → Ok b P) : Ok (if c = true then a else b) P := by
  cases c with
  | true => exact ha rfl
  | false => exact hb rfl
@[simp] theorem O.bind_ok (m : O α) : (m.bind fun a => O.ok a) = m := by cases m <;> rfl
/-! numbers -/
theorem Ok.mul {i j : Int} {Q : Int → Prop} (h : CMul i j) (k : Q (i * j)) : Ok (mulI i j) Q := Ok.grd h k
theorem Ok.mulL {i j : Int} {Q : Int → Prop} (h : -1000000000000000000 ≤ i ∧ i ≤ 1000000000000000000) (k : Q (i * j)) : Ok (mulI i j) Q := Ok.grd (cmul_l h.1 h.2) k
theorem Ok.mulR {i j : Int} {Q : Int → Prop} (h : -1000000000000000000 ≤ j ∧ j ≤ 1000000000000000000) (k : Q (i * j)) : Ok (mulI i j) Q := Ok.grd (cmul_r h.1 h.2) k
theorem Ok.fd {i j : Int} {Q : Int → Prop} (h : 0 < j ∧ j < 1073741824) (k : Q (i / j)) : Ok (fdI i j) Q := Ok.grd ⟨by omega, by omega⟩ (by rw [Int.fdiv_eq_ediv_of_nonneg _ (by omega)]; exact k)
theorem Ok.md {i j : Int} {Q : Int → Prop} (h : 0 < j) (k : Q (i % j)) : Ok (mdI i j) Q := Ok.grd (by omega) (by rw [Int.fmod_eq_emod_of_nonneg _ (by omega)]; exact k)
theorem Ok.dm {i j : Int} {Q : Int × Int → Prop} (h : 0 < j ∧ j < 1073741824) (k : Q (i / j, i % j)) : Ok (dmI i j) Q := Ok.grd h k
/-! lists -/
theorem atI_nat {xs : List α} {i : Int} (h0 : 0 ≤ i) (h1 : i < xs.length) : ∃ v, atI xs i = some v ∧ xs[i.toNat]? = some v ∧ v ∈ xs := by
  have h2 : i.toNat < xs.length := by omega
  refine ⟨xs[i.toNat], ?_, by simp [h2], List.getElem_mem _⟩
  simp [atI, ixN, h0, h1, h2]
theorem Ok.ix {xs : List α} {i : Int} (h0 : 0 ≤ i) (h1 : i < xs.length) : Ok (ixL xs i) fun v => xs[i.toNat]? = some v ∧ v ∈ xs := by
  obtain ⟨v, e, h2, h3⟩ := atI_nat h0 h1
  exact ⟨v, by simp only [ixL, e, ofO_some], h2, h3⟩
theorem Ok.app {xs : List α} {y : α} {Q : List α → Prop} (h : xs.length < sizeLine) (k : Q (xs ++ [y])) : Ok (appL xs y) Q := Ok.grd h k
theorem Ok.ext {xs ys : List α} {Q : List α → Prop} (h : xs.length + ys.length ≤ sizeLine) (k : Q (xs ++ ys)) : Ok (extL xs ys) Q := Ok.grd h k
theorem Ok.cat {xs ys : List α} {Q : List α → Prop} (h : xs.length + ys.length ≤ sizeLine) (k : Q (xs ++ ys)) : Ok (catL xs ys) Q := Ok.grd h k
theorem Ok.popAt {xs : List α} {i : Int} (h0 : 0 ≤ i) (h1 : i < xs.length) (h2 : xs.length ≤ sizeLine) : Ok (G.popAt xs i) fun p => xs[i.toNat]? = some p.1 ∧ p.2 = xs.eraseIdx i.toNat := by
  have h3 : i.toNat < xs.length := by omega
  have hs : sizeLine = 16777216 := rfl
  have e : seqIndex? i xs.length = some i.toNat := (ixN_seq (by simp [ixN, h0, h1])).1
  refine ⟨(xs[i.toNat], xs.eraseIdx i.toNat), ?_, by simp [h3], rfl⟩
  unfold G.popAt
  rw [if_pos (by omega), e]
  simp [h3]
theorem Ok.pop {xs : List α} (h : xs ≠ []) : Ok (popL xs) fun p => xs = p.2 ++ [p.1] := by
  refine ⟨(xs.getLast h, xs.dropLast), ?_, (List.dropLast_concat_getLast h).symm⟩
  unfold popL
  rw [List.getLast?_eq_getElem?.symm, List.getLast?_eq_getLast h]
  rfl
theorem Ok.st {xs : List α} {i : Int} {v : α} {Q : List α → Prop} (h0 : 0 ≤ i) (h1 : i < xs.length) (k : Q (xs.set i.toNat v)) : Ok (stL xs i v) Q := by
  refine ⟨_, ?_, k⟩
  unfold stL
  simp [ixN, h0, h1]
theorem Ok.rg1 {n : Int} {Q : List Int → Prop} (h0 : -1000000000 ≤ n) (h : n ≤ 1000000000) (k : Q (rng 0 n)) : Ok (G.rg1 n) Q := Ok.grd (by omega) k
theorem Ok.rg2 {m n : Int} {Q : List Int → Prop} (h : -1000000000 ≤ m ∧ m ≤ 1000000000 ∧ -1000000000 ≤ n ∧ n ≤ 1000000000) (k : Q (rng m n)) : Ok (G.rg2 m n) Q := Ok.grd (by omega) k
theorem Ok.lr {n : Int} {Q : List Int → Prop} (h0 : 0 ≤ n) (h : n ≤ 1000000) (k : Q (rng 0 n)) : Ok (lrI n) Q := Ok.grd (by unfold RgOk; have : sizeLine = 16777216 := rfl; omega) k
theorem mem_rng {lo hi x : Int} : x ∈ rng lo hi ↔ lo ≤ x ∧ x < hi := by
  unfold rng
  rw [List.mem_map]
  constructor
  · rintro ⟨k, hk, rfl⟩
    have := List.mem_range.mp hk
    omega
  · intro ⟨h1, h2⟩
    exact ⟨(x - lo).toNat, List.mem_range.mpr (by omega), by omega⟩
theorem rng_len (lo hi : Int) : (rng lo hi).length = (hi - lo).toNat := by simp [rng]
theorem rng_cons {lo hi : Int} (h : lo < hi) : rng lo hi = lo :: rng (lo + 1) hi := by
  unfold rng
  have e : (hi - lo).toNat = (hi - (lo + 1)).toNat + 1 := by omega
  rw [e, List.range_succ_eq_map, List.map_cons, List.map_map]
  congr 1
  · simp
  · exact List.map_congr_left fun k _ => by simp only [Function.comp]; omega
theorem rng_nil {lo hi : Int} (h : hi ≤ lo) : rng lo hi = [] := by
  unfold rng
  have e : (hi - lo).toNat = 0 := by omega
  rw [e]; rfl
theorem rng_pw (lo hi : Int) : (rng lo hi).Pairwise (· < ·) := by
  unfold rng
  rw [List.pairwise_map]
  exact List.pairwise_lt_range.imp fun h => by omega
theorem rng_nodup (lo hi : Int) : (rng lo hi).Nodup := (rng_pw lo hi).imp fun h => by omega
/-- thing by thing -/
inductive F2 {α β : Type} (R : α → β → Prop) : List α → List β → Prop
  | nil : F2 R [] []
  | cons {x y xs ys} : R x y → F2 R xs ys → F2 R (x :: xs) (y :: ys)
theorem F2.len {R : α → β → Prop} {xs ys} (h : F2 R xs ys) : xs.length = ys.length := by
  induction h with
  | nil => rfl
  | cons _ _ ih => simp [ih]
theorem F2.imp {R S : α → β → Prop} {xs ys} (h : F2 R xs ys) (k : ∀ x y, x ∈ xs → y ∈ ys → R x y → S x y) : F2 S xs ys := by
  induction h with
  | nil => exact .nil
  | cons r _ ih => exact .cons (k _ _ (List.mem_cons_self ..) (List.mem_cons_self ..) r) (ih fun x y hx hy => k x y (List.mem_cons_of_mem _ hx) (List.mem_cons_of_mem _ hy))
theorem F2.mem {R : α → β → Prop} {xs ys} (h : F2 R xs ys) {y : β} (hy : y ∈ ys) : ∃ x ∈ xs, R x y := by
  induction h with
  | nil => cases hy
  | cons r _ ih =>
    rcases List.mem_cons.mp hy with rfl | hy
    · exact ⟨_, List.mem_cons_self .., r⟩
    · obtain ⟨x, hx, r⟩ := ih hy
      exact ⟨x, List.mem_cons_of_mem _ hx, r⟩
theorem F2.get {R : α → β → Prop} {xs ys} (h : F2 R xs ys) {i : Nat} {x : α} (hx : xs[i]? = some x) : ∃ y, ys[i]? = some y ∧ R x y := by
  induction h generalizing i with
  | nil => simp at hx
  | cons r _ ih =>
    cases i with
    | zero => simp at hx; subst hx; exact ⟨_, rfl, r⟩
    | succ i => exact ih (by simpa using hx)
theorem F2.map {g : α → β} {xs ys} (h : F2 (fun x y => y = g x) xs ys) : ys = xs.map g := by
  induction h with
  | nil => rfl
  | cons r _ ih => rw [r, ih]; rfl
theorem F2.all {R : α → Bool → Prop} {xs : List α} {bs : List Bool} (h : F2 R xs bs) (k : ∀ x ∈ xs, ∀ b, R x b → b = true) : bs.all id = true := by
  induction h with
  | nil => rfl
  | cons r _ ih =>
    rw [List.all_cons, k _ (List.mem_cons_self ..) _ r, ih fun x hx => k x (List.mem_cons_of_mem _ hx)]
    rfl
/-! comprehensions -/
theorem lcS_ok {σ : Type} {f : α → σ → O (Option γ × σ)} (I : σ → Prop) (R : α → Option γ → Prop) : ∀ {xs : List α} {s : σ}, (∀ x ∈ xs, ∀ s, I s → Ok (f x s) fun p => R x p.1 ∧ I p.2) → I s → Ok (lcS f xs s) fun p => I p.2 ∧ ∃ os, F2 R xs os ∧ p.1 = os.filterMap id
  | [], s, h, hs => ⟨_, rfl, hs, [], .nil, rfl⟩
  | x :: xs, s, h, hs => by
    obtain ⟨p, e, r, i⟩ := h x (List.mem_cons_self ..) s hs
    obtain ⟨q, e2, i2, os, r2, h2⟩ := lcS_ok (xs := xs) I R (fun y hy => h y (List.mem_cons_of_mem _ hy)) i
    unfold lcS
    rw [e]
    simp only [noX, O.ok_bind, e2]
    refine ⟨_, rfl, ?_, p.1 :: os, .cons r r2, ?_⟩
    · cases p.1 <;> exact i2
    · cases hp : p.1 <;> simp [h2]
theorem Ok.lcW {σ : Type} {f : α → σ → O (Option γ × σ)} (I : σ → Prop) (R : α → Option γ → Prop) {xs : List α} {s : σ} (hl : xs.length ≤ sizeLine) (h : ∀ x ∈ xs, ∀ s, I s → Ok (f x s) fun p => R x p.1 ∧ I p.2) (hs : I s) : Ok (G.lcW f xs s) fun p => I p.2 ∧ ∃ os, F2 R xs os ∧ p.1 = os.filterMap id := by
  unfold G.lcW
  rw [if_pos hl]
  exact lcS_ok I R h hs
theorem filterMap_some (ys : List β) : (ys.map some).filterMap id = ys := by
  induction ys with
  | nil => rfl
  | cons y ys ih => simp [ih]
theorem F2.some {R : α → β → Prop} {xs : List α} {os : List (Option β)} (h : F2 (fun x o => ∃ y, o = some y ∧ R x y) xs os) : ∃ ys, os = ys.map some ∧ F2 R xs ys := by
  induction h with
  | nil => exact ⟨[], rfl, .nil⟩
  | cons r _ ih =>
    obtain ⟨y, rfl, r⟩ := r
    obtain ⟨ys, rfl, h⟩ := ih
    exact ⟨y :: ys, rfl, .cons r h⟩
theorem Ok.lcO {f : α → O γ} (R : α → γ → Prop) {xs : List α} (hl : xs.length ≤ sizeLine) (h : ∀ x ∈ xs, Ok (f x) (R x)) : Ok (G.lcO f xs) (F2 R xs) := by
  unfold G.lcO
  refine (Ok.lcW (fun _ => True) (fun x o => ∃ y, o = some y ∧ R x y) hl (fun x hx s _ => ?_) trivial).bd ?_
  · obtain ⟨y, e, r⟩ := h x hx
    rw [e]
    exact ⟨_, rfl, ⟨y, rfl, r⟩, trivial⟩
  · rintro ⟨ys, _⟩ ⟨_, os, r, e⟩
    obtain ⟨zs, e2, r2⟩ := F2.some r
    rw [e2, filterMap_some] at e
    refine Ok.ret ?_
    show F2 R xs ys
    rw [show ys = zs from e]
    exact r2
/-- .. each with just one answer -/
theorem Ok.lcOe {f : α → O γ} (g : α → γ) {xs : List α} {Q : List γ → Prop} (hl : xs.length ≤ sizeLine) (h : ∀ x ∈ xs, f x = .ok (g x)) (k : Q (xs.map g)) : Ok (G.lcO f xs) Q := by
  refine (Ok.lcO (fun x y => y = g x) hl fun x hx => ⟨_, h x hx, rfl⟩).imp fun ys r => ?_
  rw [r.map]
  exact k
theorem Ok.lcE {f : α → O (Option γ)} (R : α → Option γ → Prop) {xs : List α} (hl : xs.length ≤ sizeLine) (h : ∀ x ∈ xs, Ok (f x) (R x)) : Ok (G.lcE f xs) fun ys => ∃ os, F2 R xs os ∧ ys = os.filterMap id := by
  unfold G.lcE
  refine (Ok.lcW (fun _ => True) R hl (fun x hx s _ => ?_) trivial).bd ?_
  · obtain ⟨y, e, r⟩ := h x hx
    rw [e]
    exact ⟨_, rfl, r, trivial⟩
  · rintro ⟨ys, _⟩ ⟨_, os, r, e⟩
    exact Ok.ret ⟨os, r, e⟩
theorem Ok.lcEe {f : α → O (Option γ)} (g : α → Option γ) {xs : List α} {Q : List γ → Prop} (hl : xs.length ≤ sizeLine) (h : ∀ x ∈ xs, f x = .ok (g x)) (k : Q (xs.filterMap g)) : Ok (G.lcE f xs) Q := by
  refine (Ok.lcE (fun x y => y = g x) hl fun x hx => ⟨_, h x hx, rfl⟩).imp fun ys ⟨os, r, e⟩ => ?_
  rw [e, r.map, List.filterMap_map]
  exact k
theorem Ok.lcM {f : α → γ} {xs : List α} {Q : List γ → Prop} (hl : xs.length ≤ sizeLine) (k : Q (xs.map f)) : Ok (G.lcM f xs) Q := Ok.grd hl k
theorem Ok.lcF {b : α → Bool} {f : α → γ} {xs : List α} {Q : List γ → Prop} (hl : xs.length ≤ sizeLine) (k : Q ((xs.filter b).map f)) : Ok (G.lcF b f xs) Q := Ok.grd hl k
/-! loops -/
theorem Ok.forN {f : α → σ → O σ} (I : List α → σ → Prop) {Q : σ → Prop} (step : ∀ x xs s, I (x :: xs) s → Ok (f x s) (I xs)) (fin : ∀ s, I [] s → Q s) : ∀ {xs : List α} {s : σ}, I xs s → Ok (G.forN f xs s) Q
  | [], s, h => ⟨s, rfl, fin s h⟩
  | x :: xs, s, h => by
    unfold G.forN
    exact (step x xs s h).bd fun s' h' => Ok.forN I step fin h'
/-- by what was gone through already -/
theorem Ok.forD {f : α → σ → O σ} (I : List α → σ → Prop) {Q : σ → Prop} {xs : List α} {s : σ} (h0 : I [] s) (step : ∀ ds x rs s, xs = ds ++ x :: rs → I ds s → Ok (f x s) (I (ds ++ [x]))) (fin : ∀ s, I xs s → Q s) : Ok (G.forN f xs s) Q := by
  refine Ok.forN (fun rs s => ∃ ds, xs = ds ++ rs ∧ I ds s) (fun x rs s ⟨ds, e, h⟩ => ?_) (fun s ⟨ds, e, h⟩ => ?_) ⟨[], rfl, h0⟩
  · exact (step ds x rs s e h).imp fun s' h' => ⟨ds ++ [x], by simp [e], h'⟩
  · rw [List.append_nil] at e
    subst e
    exact fin s h
theorem Ok.forR {ρτ : Type} {f : α → σ → O (Stp σ ρτ)} (I : List α → σ → Prop) {Q : Sum ρτ σ → Prop} (step : ∀ x xs s, I (x :: xs) s → Ok (f x s) fun z => match z with | .on s => I xs s | .out s => Q (.inr s) | .rt v => Q (.inl v)) (fin : ∀ s, I [] s → Q (.inr s)) : ∀ {xs : List α} {s : σ}, I xs s → Ok (G.forR f xs s) Q
  | [], s, h => ⟨.inr s, rfl, fin s h⟩
  | x :: xs, s, h => by
    unfold G.forR
    refine (step x xs s h).bd fun z hz => ?_
    cases z with
    | on s => exact Ok.forR I step fin hz
    | out s => exact Ok.ret hz
    | rt v => exact Ok.ret hz
theorem whN_ok {c : σ → O Bool} {b : σ → O σ} (μ : σ → Nat) (I : σ → Prop) (hc : ∀ s, I s → ∃ v, c s = .ok v) (step : ∀ s, I s → c s = .ok true → Ok (b s) fun s' => I s' ∧ μ s' < μ s) : ∀ (n : Nat) (s : σ), μ s < n → I s → ∃ s', whN c b n s = .ok s' ∧ I s' ∧ c s' = .ok false
  | 0, s, h, _ => absurd h (Nat.not_lt_zero _)
  | n + 1, s, h, hs => by
    obtain ⟨v, e⟩ := hc s hs
    unfold whN
    rw [e]
    simp only [O.ok_bind]
    cases v with
    | true =>
      obtain ⟨s1, e1, h1, h2⟩ := step s hs e
      rw [if_pos rfl, e1]
      exact whN_ok μ I hc step n s1 (by omega) h1
    | false => exact ⟨s, rfl, hs, e⟩
theorem Ok.wh {c : σ → O Bool} {b : σ → O σ} (μ : σ → Nat) (I : σ → Prop) {Q : σ → Prop} (hc : ∀ s, I s → ∃ v, c s = .ok v) (step : ∀ s, I s → c s = .ok true → Ok (b s) fun s' => I s' ∧ μ s' < μ s) {s : σ} (h : I s) (fin : ∀ s', I s' → c s' = .ok false → Q s') : Ok (whO c b s) Q := by
  obtain ⟨s', e, h1, h2⟩ := whN_ok μ I hc step (μ s + 1) s (by omega) h
  exact ⟨s', whO_of e, fin s' h1 h2⟩
end
/-! ### sorted -/
section
variable {α : Type} {e : α → D} {p : α → PyData} {n : Nat}
theorem dlt_trans {a b c : PyData} (h1 : PySem.W.dataLt a b = true) (h2 : PySem.W.dataLt b c = true) : PySem.W.dataLt a c = true := lex_trans _ _ _ h1 h2
theorem dlt_total {a b : PyData} (h1 : PySem.W.dataLt a b = false) (h2 : PySem.W.dataLt b a = false) : PySem.W.keyToks a = PySem.W.keyToks b := lex_total _ _ h1 h2
theorem lt_trans {a b c : α} (h1 : lt p a b = true) (h2 : lt p b c = true) : lt p a c = true := dlt_trans h1 h2
theorem lt_irr (a : α) : lt p a a = false := lex_irrefl _
theorem lt_asym {a b : α} (h : lt p a b = true) : lt p b a = false := by
  cases h2 : lt p b a with
  | false => rfl
  | true =>
    have := lt_trans h h2
    rw [lt_irr] at this
    cases this
theorem Ety.tot (h : Ety e p n) {a b : α} (h1 : G.lt p a b = false) (h2 : G.lt p b a = false) : a = b := h.tk (dlt_total h1 h2)
theorem leB_trans {a b c : α} (h1 : leB p a b = true) (h2 : leB p b c = true) : leB p a c = true := by
  unfold leB at *
  simp only [Bool.not_eq_true'] at *
  cases h3 : lt p c a with
  | false => rfl
  | true =>
    cases h4 : lt p a b with
    | true => rw [lt_trans h3 h4] at h2; cases h2
    | false =>
      have e : PySem.W.keyToks (p a) = PySem.W.keyToks (p b) := dlt_total h4 h1
      have : lt p c b = lt p c a := by unfold lt PySem.W.dataLt; rw [e]
      rw [this, h3] at h2
      cases h2
theorem leB_tot (a b : α) : (leB p a b || leB p b a) = true := by
  unfold leB
  cases h1 : lt p b a with
  | false => rfl
  | true => rw [lt_asym h1]; rfl
theorem srt_perm (xs : List α) : (srt p xs).Perm xs := List.mergeSort_perm _ _
theorem srt_len (xs : List α) : (srt p xs).length = xs.length := (srt_perm xs).length_eq
theorem mem_srt {x : α} {xs : List α} : x ∈ srt p xs ↔ x ∈ xs := (srt_perm xs).mem_iff
theorem srt_le (xs : List α) : (srt p xs).Pairwise fun a b => lt p b a = false := by
  have h := List.pairwise_mergeSort (le := leB p) (fun a b c => leB_trans) leB_tot xs
  exact h.imp fun {a b} q => by unfold leB at q; simpa using q
theorem Ety.srt_lt (h : Ety e p n) {xs : List α} (nd : xs.Nodup) : (srt p xs).Pairwise fun a b => G.lt p a b = true := by
  have h2 : (srt p xs).Nodup := (srt_perm xs).nodup_iff.mpr nd
  refine ((srt_le xs).and h2).imp fun {a b} ⟨q1, q2⟩ => ?_
  cases h3 : G.lt p a b with
  | true => rfl
  | false => exact absurd (h.tot h3 q1) q2
theorem lt_int (a b : Int) : lt PyData.int a b = decide (a < b) := by
  unfold lt
  exact PySem.W.dataLt_int a b
end
end G
/-! T4: repr of typed data. -/
namespace G
open PySem PySem.Spec PyProof.Rows L2 PyProof
/-- it has a repr of at most n signs; of depth at most k; b: no list within, else no dict -/
structure Rpr (d : D) (n k : Nat) (b : Bool) : Prop where
  ex : ∃ p, toPyR d = some p ∧ p.showable = true ∧ p.shown.length ≤ n ∧ p.depth ≤ k ∧ (if b = true then noL d = true else p.hasDict = false)
theorem Rpr.ok {d : D} {n k : Nat} {b : Bool} (h : Rpr d n k b) (hn : n ≤ sizeLine) (hk : k ≤ 60) : ∃ s, reprO d = .ok s := by
  obtain ⟨p, e, h1, h2, h3, h4⟩ := h
  refine ⟨p.shown, ?_⟩
  have : reprOk d p = true := by
    unfold reprOk
    rw [h1, decide_eq_true (by omega : p.shown.length ≤ sizeLine), decide_eq_true (by omega : p.depth ≤ 60)]
    cases b with
    | true => simp only [if_true] at h4; rw [h4]; simp
    | false => simp only [Bool.false_eq_true, if_false] at h4; rw [h4]; simp
  simp only [reprO, dRepr, e, Option.bind, this, if_true, opS]
theorem Rpr.mono {d : D} {n k n' k' : Nat} {b : Bool} (h : Rpr d n k b) (hn : n ≤ n') (hk : k ≤ k') : Rpr d n' k' b := by
  obtain ⟨p, e, h1, h2, h3, h4⟩ := h
  exact ⟨p, e, h1, by omega, by omega, h4⟩
theorem rpr_non {b : Bool} : Rpr .non 4 0 b := ⟨.none, rfl, rfl, by decide, Nat.le_refl _, by cases b <;> rfl⟩
theorem rpr_bl {x b : Bool} : Rpr (.bl x) 5 0 b := ⟨.bool x, rfl, rfl, by cases x <;> decide, Nat.le_refl _, by cases b <;> rfl⟩
theorem rpr_int {i : Int} {b : Bool} (h : i.natAbs.log2 < 1920) : Rpr (.int i) 1921 0 b := ⟨.int i, rfl, by simp [PyData.showable, h], int_text_len_1921 h, Nat.le_refl _, by cases b <;> rfl⟩
theorem rpr_int' {i : Int} {b : Bool} (h0 : -(10 ^ 40) < i) (h : i < 10 ^ 40) : Rpr (.int i) 1921 0 b := by
  refine rpr_int ?_
  have h1 : i.natAbs < 2 ^ 140 := by omega
  by_cases z : i.natAbs = 0
  · rw [z]; decide
  · have := (Nat.log2_lt z).mpr h1
    omega
theorem rpr_str {x : Str} {b : Bool} (h : ∀ c ∈ x.cps.toList, c < 16 ^ 8) : Rpr (.str x) (10 * x.length + 2) 0 b := ⟨.str x, rfl, rfl, PySem.StrLaws.reprText_len x h, Nat.le_refl _, by cases b <;> rfl⟩
theorem rpr_dct : Rpr (.dct [] []) 2 1 true := ⟨.dict [], rfl, rfl, by decide, by decide, rfl⟩
theorem toPyRL_of : ∀ {xs : List D} {n k : Nat} {b : Bool}, (∀ x ∈ xs, Rpr x n k b) → ∃ ps, toPyRL xs = some ps ∧ PyData.showableAll ps = true ∧ piled (PyData.shownAll ps) ≤ xs.length * (n + 2) ∧ PyData.depthAll ps ≤ k + 1 ∧ ps.length = xs.length ∧ (if b = true then noLL xs = true else PyData.hasDictAll ps = false)
  | [], n, k, b, _ => ⟨[], rfl, rfl, by simp [PyData.shownAll, piled], Nat.zero_le _, rfl, by cases b <;> rfl⟩
  | x :: xs, n, k, b, h => by
    obtain ⟨p, e, h1, h2, h3, h4⟩ := h x (List.mem_cons_self ..)
    obtain ⟨ps, e', g1, g2, g3, g5, g4⟩ := toPyRL_of (xs := xs) fun y hy => h y (List.mem_cons_of_mem _ hy)
    refine ⟨p :: ps, by simp only [toPyRL, e, e'], by simp only [PyData.showableAll, h1, g1, Bool.and_self], ?_, ?_, by simp [g5], ?_⟩
    · simp only [PyData.shownAll, piled_cons, List.length_cons, Nat.add_mul]
      omega
    · simp only [PyData.depthAll]
      omega
    · cases b with
      | true => simp only [if_true] at h4 g4 ⊢; simp only [noLL, h4, g4, Bool.and_self]
      | false => simp only [Bool.false_eq_true, if_false] at h4 g4 ⊢; simp only [PyData.hasDictAll, h4, g4, Bool.or_self]
theorem join_le (ts : List Str) : (Str.join ", " ts).length ≤ piled ts := by
  by_cases h : ts = []
  · subst h; exact Nat.zero_le _
  · have := join_length_add ts h
    omega
theorem rpr_tup {xs : List D} {n k : Nat} {b : Bool} (h : ∀ x ∈ xs, Rpr x n k b) : Rpr (.tup xs) (xs.length * (n + 2) + 3) (k + 2) b := by
  obtain ⟨ps, e, g1, g2, g3, g5, g4⟩ := toPyRL_of h
  refine ⟨.tuple ps, by simp only [toPyR, e, Option.map], by simpa only [PyData.showable] using g1, ?_, ?_, ?_⟩
  · show (tupleText (PyData.shownAll ps)).length ≤ _
    unfold tupleText
    have := join_le (PyData.shownAll ps)
    rw [strLen_append, strLen_append]
    have h1 : (("(" : String) : Str).length = 1 := rfl
    have h2 : (((if (PyData.shownAll ps).length == 1 then ",)" else ")" : String)) : Str).length ≤ 2 := by split <;> decide
    omega
  · simp only [PyData.depth]
    omega
  · cases b with
    | true => simpa only [if_true, noL] using g4
    | false => simpa only [Bool.false_eq_true, if_false, PyData.hasDict] using g4
theorem rpr_lst {xs : List D} {n k : Nat} (h : ∀ x ∈ xs, Rpr x n k false) : Rpr (.lst xs) (xs.length * (n + 2) + 3) (k + 2) false := by
  obtain ⟨ps, e, g1, g2, g3, g5, g4⟩ := toPyRL_of h
  refine ⟨.list ps, by simp only [toPyR, e, Option.map], by simpa only [PyData.showable] using g1, ?_, ?_, ?_⟩
  · show (listText (PyData.shownAll ps)).length ≤ _
    have : ∀ (ts : List Str) (j : Nat) (acc : Str), (textFrom j acc ts).length ≤ acc.length + piled ts := by
      intro ts
      induction ts with
      | nil => intro j acc; show acc.length ≤ _; omega
      | cons t ts ih =>
        intro j acc
        have := ih (j + 1) (acc ++ (if j > 0 then ", " else "" : String) ++ t)
        rw [piled_cons]
        show (textFrom (j + 1) (acc ++ (if j > 0 then ", " else "" : String) ++ t) ts).length ≤ _
        have e1 : (acc ++ (if j > 0 then ", " else "" : String) ++ t).length ≤ acc.length + 2 + t.length := by
          rw [strLen_append, strLen_append]
          have : (((if j > 0 then ", " else "" : String)) : Str).length ≤ 2 := by split <;> decide
          omega
        omega
    have := this (PyData.shownAll ps) 0 "["
    unfold listText
    rw [strLen_append]
    have h1 : (("[" : String) : Str).length = 1 := rfl
    have h2 : (("]" : String) : Str).length = 1 := rfl
    omega
  · simp only [PyData.depth]
    omega
  · simpa only [Bool.false_eq_true, if_false, PyData.hasDict] using g4
end G
namespace Law
open PySem PySem.Spec PyProof.Rows L2 G
def top (i : Nat) : Stmt := PySem.Challenge.pw_gaugemoor_k09_what_is_a_stand.main.body.getD i (.Pass ⟨0, 0, 0, 0⟩)
def d_f_law_handed : He.DefD := ⟨("_law_handed", none), "_law_handed", "_law_handed", defArgs (top 31), defBody (top 31), defScope (top 31), [], []⟩
def d_f_is_name : He.DefD := ⟨("is_name", none), "is_name", "is_name", defArgs (top 12), defBody (top 12), defScope (top 12), [], []⟩
def d_f_is_whole : He.DefD := ⟨("is_whole", none), "is_whole", "is_whole", defArgs (top 10), defBody (top 10), defScope (top 10), [], []⟩
def d_f_is_number : He.DefD := ⟨("is_number", none), "is_number", "is_number", defArgs (top 11), defBody (top 11), defScope (top 11), [], []⟩
def d_f_is_gauge : He.DefD := ⟨("is_gauge", none), "is_gauge", "is_gauge", defArgs (top 13), defBody (top 13), defScope (top 13), [], []⟩
def d_f_odd_gauge : He.DefD := ⟨("odd_gauge", none), "odd_gauge", "odd_gauge", defArgs (top 15), defBody (top 15), defScope (top 15), [], []⟩
def d_f_is_rod : He.DefD := ⟨("is_rod", none), "is_rod", "is_rod", defArgs (top 14), defBody (top 14), defScope (top 14), [], []⟩
def d_f_odd_rod : He.DefD := ⟨("odd_rod", none), "odd_rod", "odd_rod", defArgs (top 16), defBody (top 16), defScope (top 16), [], []⟩
def d_f_Moor_init : He.DefD := ⟨("Moor", some "__init__"), "__init__", "Moor.__init__", defArgs (inClass (top 17) 0), defBody (inClass (top 17) 0), defScope (inClass (top 17) 0), [.adr (He.dflAt ("Moor", some "__init__") 0)], [("rods", .adr (kwAt ("Moor", some "__init__") "rods"))]⟩
def d_f_law_draw : He.DefD := ⟨("_law_draw", none), "_law_draw", "_law_draw", defArgs (top 24), defBody (top 24), defScope (top 24), [], []⟩
def d_f_law_sat : He.DefD := ⟨("_law_sat", none), "_law_sat", "_law_sat", defArgs (top 30), defBody (top 30), defScope (top 30), [], []⟩
def d_f_law_near_sats : He.DefD := ⟨("_law_near_sats", none), "_law_near_sats", "_law_near_sats", defArgs (top 33), defBody (top 33), defScope (top 33), [], []⟩
def d_f_checked_moor : He.DefD := ⟨("checked_moor", none), "checked_moor", "checked_moor", defArgs (top 18), defBody (top 18), defScope (top 18), [], []⟩
def d_f_is_stand : He.DefD := ⟨("is_stand", none), "is_stand", "is_stand", defArgs (top 20), defBody (top 20), defScope (top 20), [], []⟩
def d_f_law_no_moor : He.DefD := ⟨("_law_no_moor", none), "_law_no_moor", "_law_no_moor", defArgs (top 35), defBody (top 35), defScope (top 35), [], []⟩
def d_f_law_is_sat : He.DefD := ⟨("_law_is_sat", none), "_law_is_sat", "_law_is_sat", defArgs (top 32), defBody (top 32), defScope (top 32), [], []⟩
def d_f_law_told_right : He.DefD := ⟨("_law_told_right", none), "_law_told_right", "_law_told_right", defArgs (top 34), defBody (top 34), defScope (top 34), [], []⟩
def d_f_Moor_str : He.DefD := ⟨("Moor", some "__str__"), "__str__", "Moor.__str__", defArgs (inClass (top 17) 3), defBody (inClass (top 17) 3), defScope (inClass (top 17) 3), [], []⟩
def d_f_law_one_right : He.DefD := ⟨("_law_one_right", none), "_law_one_right", "_law_one_right", defArgs (top 36), defBody (top 36), defScope (top 36), [], []⟩
def d_f_law_pairs : He.DefD := ⟨("_law_pairs", none), "_law_pairs", "_law_pairs", defArgs (top 26), defBody (top 26), defScope (top 26), [], []⟩
def d_f_law_calls : He.DefD := ⟨("_law_calls", none), "_law_calls", "_law_calls", defArgs (top 25), defBody (top 25), defScope (top 25), [], []⟩
def d_f_law_near : He.DefD := ⟨("_law_near", none), "_law_near", "_law_near", defArgs (top 27), defBody (top 27), defScope (top 27), [], []⟩
def d_f_law_moor_small : He.DefD := ⟨("_law_moor_small", none), "_law_moor_small", "_law_moor_small", defArgs (top 28), defBody (top 28), defScope (top 28), [], []⟩
def d_f_law_moor_great : He.DefD := ⟨("_law_moor_great", none), "_law_moor_great", "_law_moor_great", defArgs (top 29), defBody (top 29), defScope (top 29), [], []⟩
def d_f_law_right : He.DefD := ⟨("_law_right", none), "_law_right", "_law_right", defArgs (top 37), defBody (top 37), defScope (top 37), [], []⟩
def d_f_law_hand : He.DefD := ⟨("_law_hand", none), "_law_hand", "_law_hand", defArgs (top 23), defBody (top 23), defScope (top 23), [], []⟩
def d_f_law_cell : He.DefD := ⟨("_law_cell", none), "_law_cell", "_law_cell", defArgs (top 22), defBody (top 22), defScope (top 22), [], []⟩
def d_f_law : He.DefD := ⟨("law", none), "law", "law", defArgs (top 38), defBody (top 38), defScope (top 38), [], []⟩
def fn : List He.DefD := [d_f_law_handed, d_f_is_name, d_f_is_whole, d_f_is_number, d_f_is_gauge, d_f_odd_gauge, d_f_is_rod, d_f_odd_rod, d_f_Moor_init, d_f_law_draw, d_f_law_sat, d_f_law_near_sats, d_f_checked_moor, d_f_is_stand, d_f_law_no_moor, d_f_law_is_sat, d_f_law_told_right, d_f_Moor_str, d_f_law_one_right, d_f_law_pairs, d_f_law_calls, d_f_law_near, d_f_law_moor_small, d_f_law_moor_great, d_f_law_right, d_f_law_hand, d_f_law_cell, d_f_law]
def fa : List He.Fa := [.free "tuple", .free "zip", .glo "_law_handed", .free "len", .free "isinstance", .free "str", .free "all", .glo "is_name", .free "bool", .free "int", .glo "is_whole", .glo "is_number", .int "GREAT" (1000000000), .glo "is_gauge", .free "enumerate", .glo "odd_gauge", .glo "is_rod", .glo "odd_rod", .int "MOST_GAUGES" (12), .cls "Moor", .noat "Moor" "gauges", .noat "Moor" "rods", .free "divmod", .glo "_law_draw", .free "max", .free "min", .glo "_law_sat", .free "list", .glo "_law_near_sats", .glo "Moor", .exc "NoMoor", .glo "NoMoor", .glo "checked_moor", .glo "is_stand", .glo "_law_no_moor", .glo "_law_is_sat", .free "repr", .glo "_law_told_right", .mkr "Moor", .meth "Moor" "__str__", .glo "_law_one_right", .free "range", .free "sorted", .glo "_law_pairs", .glo "_law_calls", .glo "_law_near", .glo "_law_moor_small", .glo "_law_moor_great", .glo "_law_right", .free "abs", .glo "_law_hand", .glo "_law_cell", .glo "law", .exm "Moor" "NoMoor" false, .exm "NoMoor" "NoMoor" true]
def exB (K : Frag) : Bool := (clsFB K (He.ga K "Moor") && (notBB K (He.ga K "Moor") && (tup0B K (He.dflAt ("Moor", some "__init__") 0 K) && (tup0B K (kwAt ("Moor", some "__init__") "rods" K) && true))))
abbrev Hy (K : Frag) (mg : PySem.Str → Option Value) (h : Heap) : Prop := HyG fa fn exB K mg h
section
variable {K : Frag} {mg : PySem.Str → Option Value} {h : Heap}
theorem clsF_Moor (y : Hy K mg h) : ClsF K (He.ga K "Moor") := clsF_of (y.cls_ 19) (Bool.and_eq_true_iff.mp y.ex).1
theorem notB_Moor (y : Hy K mg h) : NotB K (He.ga K "Moor") := notB_of (Bool.and_eq_true_iff.mp (Bool.and_eq_true_iff.mp y.ex).2).1
theorem tup_0 (y : Hy K mg h) : tup0B K (He.dflAt ("Moor", some "__init__") 0 K) = true := (Bool.and_eq_true_iff.mp (Bool.and_eq_true_iff.mp (Bool.and_eq_true_iff.mp y.ex).2).2).1
theorem tup_1 (y : Hy K mg h) : tup0B K (kwAt ("Moor", some "__init__") "rods" K) = true := (Bool.and_eq_true_iff.mp (Bool.and_eq_true_iff.mp (Bool.and_eq_true_iff.mp (Bool.and_eq_true_iff.mp y.ex).2).2).2).1
abbrev ct (K : Frag) : Ct := fun i => match i with
  | 0 => (He.ga K "Moor", ["gauges", "rods"])
  | _ => (He.ga K "NoMoor", [])
theorem ndc_0 : (["gauges", "rods"] : List PySem.Str).Nodup := by decide
theorem lnc_0 : (["gauges", "rods"] : List PySem.Str).length < 1000 := by decide
theorem ndc_1 : ([] : List PySem.Str).Nodup := by decide
theorem lnc_1 : ([] : List PySem.Str).length < 1000 := by decide
def caught_NoMoor (i : Nat) : Bool := match i with
  | 0 => false
  | _ => true
theorem ex_NoMoor (y : Hy K mg h) : ∀ i : Nat, PySem.W.exmOne K (.ref (ct K i).1) (.ref (He.ga K "NoMoor")) = some (caught_NoMoor i)
  | 0 => y.exm 53
  | n + 1 => y.exm 54
abbrev gD_f_is_stand_b0_thing_moor : List D → List D → List D := fun ds es => pickL [1, 0] (ds ++ es)
theorem bn_f_is_stand_b0_thing_moor (y : Hy K mg h) {fd : FuncData} (D : FunD K (d_f_is_stand).name (d_f_is_stand).qual (d_f_is_stand).params (d_f_is_stand).body (d_f_is_stand).scope ((d_f_is_stand).dvs K) ((d_f_is_stand).kws K) (He.fAd K ("is_stand", none)) fd) : BnD K (ct K) fd (["moor", "thing"] : List PySem.Str) 0 ["thing", "moor"] gD_f_is_stand_b0_thing_moor := bnD_k D 0 ["thing", "moor"] [1, 0] fun _ _ _ _ _ _ us ws h1 h2 => match us, ws, h1, h2 with | [], [_, _], _, _ => rfl
abbrev gD_f_Moor_init_b1_rods : List D → List D → List D := fun ds es => pickL [0, 2] (ds ++ [.tup []] ++ es)
theorem bn_f_Moor_init_b1_rods (y : Hy K mg h) {fd : FuncData} (D : FunD K (d_f_Moor_init).name (d_f_Moor_init).qual (d_f_Moor_init).params (d_f_Moor_init).body (d_f_Moor_init).scope ((d_f_Moor_init).dvs K) ((d_f_Moor_init).kws K) (He.fAd K ("Moor", some "__init__")) fd) : BnM K (ct K) fd (["self", "gauges", "rods"] : List PySem.Str) 1 ["rods"] gD_f_Moor_init_b1_rods := bnM_k D 1 ["rods"] [] [0, 2] [.tup []] (List.cons_ne_nil _ _) (List.cons_ne_nil _ _) (fun _ hq => absurd hq List.not_mem_nil) (fun F => rpl_cons.mpr ⟨_, _, rfl, tup0_of (tup_0 y) F, rpl_nil.mpr rfl⟩) fun _ _ _ _ _ _ _ us its mv ws h1 h2 h3 h4 => match us, its, mv, ws, h1, h2, h3, h4 with | [_, _], [_], [], [_], _, _, _, _ => ⟨_, rfl, rfl⟩
abbrev gD_f_Moor_init_b0 : List D → List D → List D := fun ds es => pickL [0, 1] (ds ++ [.tup [], .tup []] ++ es)
theorem bn_f_Moor_init_b0 (y : Hy K mg h) {fd : FuncData} (D : FunD K (d_f_Moor_init).name (d_f_Moor_init).qual (d_f_Moor_init).params (d_f_Moor_init).body (d_f_Moor_init).scope ((d_f_Moor_init).dvs K) ((d_f_Moor_init).kws K) (He.fAd K ("Moor", some "__init__")) fd) : BnM K (ct K) fd (["self", "gauges", "rods"] : List PySem.Str) 0 [] gD_f_Moor_init_b0 := bnM_k D 0 [] [("rods", .ref (kwAt ("Moor", some "__init__") "rods" K))] [0, 1] [.tup [], .tup []] (List.cons_ne_nil _ _) (List.cons_ne_nil _ _) (fun _ hq => hq) (fun F => rpl_cons.mpr ⟨_, _, rfl, tup0_of (tup_0 y) F, rpl_cons.mpr ⟨_, _, rfl, tup0_of (tup_1 y) F, rpl_nil.mpr rfl⟩⟩) fun _ _ _ _ _ _ _ us its mv ws h1 h2 h3 h4 => match us, its, mv, ws, h1, h2, h3, h4 with | [_], [_], [_], [], _, _, _, _ => ⟨_, rfl, _, _, _, _, _, _, rfl, rfl, rfl⟩
end
end Law
namespace Law
open PySem PySem.Spec PyProof.Rows L2 G
/-! ### _law_handed -/
noncomputable def c_f_law_handed_1 : M D := mLc [4, 5] (mIt (mV 2)) (gT 2 (gC (gN 4) (gC (gN 5) (gE)))) (mYes) (mTup (mCons (m2 dIx (mV 0) (mV 4)) (mCons (m2 dIx (mV 0) (mV 5)) (mNil))))
noncomputable def c_f_law_handed_2 : M D := mLc [6, 7] (mZp (mCons (mV 0) (mCons (mV 1) (mNil)))) (gT 2 (gC (gN 6) (gC (gN 7) (gE)))) (mYes) (mTup (mCons (mV 6) (mCons (mV 7) (mNil))))
noncomputable def m_f_law_handed : MS := (mSet 3 (mA dTupOf (mCons (c_f_law_handed_1) mNil))).sq (mRet (mTup (mCons (mA dTupOf (mCons (c_f_law_handed_2) mNil)) (mCons (mV 3) (mNil)))))
noncomputable def MF_f_law_handed : MFn := mFn 8 [.fz, .fz, .fz] false m_f_law_handed
theorem s_f_law_handed : FnScope (["_law_calls_here", "_law_highs", "_law_pairs_here", "_law_rows", "_law_k", "_law_j", "_law_call", "_law_high"] : List PySem.Str) (["_law_calls_here", "_law_highs", "_law_pairs_here"] : List PySem.Str) (d_f_law_handed).scope := ⟨rfl, rfl, rfl, by decide +kernel, rfl, by decide +kernel, by decide +kernel⟩
theorem w_f_law_handed {P : Program} {w : World} {K : Frag} {mg : PySem.Str → Option Value} {h : Heap} (y : Hy K mg h) : ∃ fd, FunD K (d_f_law_handed).name (d_f_law_handed).qual (d_f_law_handed).params (d_f_law_handed).body (d_f_law_handed).scope ((d_f_law_handed).dvs K) ((d_f_law_handed).kws K) (He.fAd K ("_law_handed", none)) fd ∧ BnF K fd (["_law_calls_here", "_law_highs", "_law_pairs_here"] : List PySem.Str) ∧ PySem.W.keepIn K (.ref (He.fAd K ("_law_handed", none))) = true ∧ mg "_law_handed" = some (.ref (He.fAd K ("_law_handed", none))) ∧ ∀ base : Heap, FnG P w K mg base (L2.CX P w) 1 (He.fAd K ("_law_handed", none)) fd (["_law_calls_here", "_law_highs", "_law_pairs_here"] : List PySem.Str) (SpG K (ct K) [.fz, .fz, .fz] false MF_f_law_handed) := by
  obtain ⟨fd, D⟩ := y.says.def_ 0
  refine ⟨fd, D, (bnF (D.bindsN fun _ _ _ _ _ _ us hl => match us, hl with | [_, _, _], _ => rfl)), D.kp, y.glo 2, fun base => fn_g (N := (["_law_calls_here", "_law_highs", "_law_pairs_here", "_law_rows", "_law_k", "_law_j", "_law_call", "_law_high"] : List PySem.Str)) (ps := (["_law_calls_here", "_law_highs", "_law_pairs_here"] : List PySem.Str)) (ks := [.fz, .fz, .fz]) (Γl := [.fz, .fz, .fz, .fz, .fz]) (Γ' := [.fz, .fz, .fz, .fz, .fz, .fz, .fz, .fz]) (ro := false) (b := m_f_law_handed) D s_f_law_handed fun X S cdv A outer s H E hX hK hc hge hro tk gd room po => ?_⟩
  obtain ⟨⟨SK, Sct, F0, H0, ios⟩, Sge, SW, gc, gb, Sro⟩ := S
  have hK1 : SK = K := hK; have hc1 : Sct = ct K := hc; clear hK hc; subst hc1; subst hK1; cases hge; cases hro; subst hX
  have hu := room.units
  have nd : (["_law_calls_here", "_law_highs", "_law_pairs_here", "_law_rows", "_law_k", "_law_j", "_law_call", "_law_high"] : List PySem.Str).Nodup := by decide +kernel
  exact ss_cons (Γ1 := [.fz, .fz, .fz, .fz, .fz, .fz, .fz, .fz]) (s_set (i := 3) (e_ct (b_tuple rfl) (a_oneR (e_r (e_o (o_lc (own := [("_law_k", 4), ("_law_j", 5)]) (is := [4, 5]) rfl nd (i_any (e_v (pv 2))) rfl (fun _ _ _ _ _ => g_tup rfl (g_cons (g_name (i := 4) nd rfl (by first | exact Or.inl rfl | exact Or.inr rfl) (by first | exact Or.inr rfl | exact Or.inl rfl) ⟨_, rfl, by decide⟩) (g_cons (g_name (i := 5) nd rfl (by first | exact Or.inl rfl | exact Or.inr rfl) (by first | exact Or.inr rfl | exact Or.inl rfl) ⟨_, rfl, by decide⟩) (g_nil)))) (fun _ _ _ _ _ => ts_nil) (fun _ _ _ _ _ => e_tup (a_cons (e_ix (e_v (pv 0)) (e_v (pv 4))) (a_cons (e_ix (e_v (pv 0)) (e_v (pv 5))) (a_nil)))))))) (y.free 0)) nd rfl (by first | exact Or.inl rfl | exact Or.inr rfl) (by first | exact Or.inr rfl | exact Or.inl rfl) ⟨_, rfl, by decide⟩) (ss_one (s_ret (e_tup (a_cons (e_ct (b_tuple rfl) (a_oneR (e_r (e_o (o_lc (own := [("_law_call", 6), ("_law_high", 7)]) (is := [6, 7]) rfl nd (i_zp (a_cons (e_v (pv 0)) (a_cons (e_v (pv 1)) (a_nil))) (y.free 1)) rfl (fun _ _ _ _ _ => g_tup rfl (g_cons (g_name (i := 6) nd rfl (by first | exact Or.inl rfl | exact Or.inr rfl) (by first | exact Or.inr rfl | exact Or.inl rfl) ⟨_, rfl, by decide⟩) (g_cons (g_name (i := 7) nd rfl (by first | exact Or.inl rfl | exact Or.inr rfl) (by first | exact Or.inr rfl | exact Or.inl rfl) ⟨_, rfl, by decide⟩) (g_nil)))) (fun _ _ _ _ _ => ts_nil) (fun _ _ _ _ _ => e_tup (a_cons (e_v (pv 6)) (a_cons (e_v (pv 7)) (a_nil)))))))) (y.free 0)) (a_cons (e_v (pv 3)) (a_nil))))))
end Law
namespace Law
open PySem PySem.Spec PyProof.Rows L2 G
/-! ### is_name -/
noncomputable def c_f_is_name_1 : M D := mLc [1] (mIt (mV 0)) (gN 1) (mYes) (m2 dIn (mV 1) (mC (.str "abcdefghijklmnopqrstuvwxyz")))
noncomputable def m_f_is_name : MS := (mIfS (mOr (mNot (mT (m1 (dIs .str) (mV 0)))) (mNot (mB (mCh dLe dLe (mC (.int 1)) (mA dLen (mCons (mV 0) mNil)) (mC (.int 6)))))) (mRet (mC (.bl false))) (mNx)).sq (mRet (mA dAll (mCons (c_f_is_name_1) mNil)))
noncomputable def MF_f_is_name : MFn := mFn 2 [.fz] false m_f_is_name
theorem s_f_is_name : FnScope (["thing", "sign"] : List PySem.Str) (["thing"] : List PySem.Str) (d_f_is_name).scope := ⟨rfl, rfl, rfl, by decide +kernel, rfl, by decide +kernel, by decide +kernel⟩
theorem w_f_is_name {P : Program} {w : World} {K : Frag} {mg : PySem.Str → Option Value} {h : Heap} (y : Hy K mg h) : ∃ fd, FunD K (d_f_is_name).name (d_f_is_name).qual (d_f_is_name).params (d_f_is_name).body (d_f_is_name).scope ((d_f_is_name).dvs K) ((d_f_is_name).kws K) (He.fAd K ("is_name", none)) fd ∧ BnF K fd (["thing"] : List PySem.Str) ∧ PySem.W.keepIn K (.ref (He.fAd K ("is_name", none))) = true ∧ mg "is_name" = some (.ref (He.fAd K ("is_name", none))) ∧ ∀ base : Heap, FnG P w K mg base (L2.CX P w) 1 (He.fAd K ("is_name", none)) fd (["thing"] : List PySem.Str) (SpG K (ct K) [.fz] false MF_f_is_name) := by
  obtain ⟨fd, D⟩ := y.says.def_ 1
  refine ⟨fd, D, (bnF (D.bindsN fun _ _ _ _ _ _ us hl => match us, hl with | [_], _ => rfl)), D.kp, y.glo 7, fun base => fn_g (N := (["thing", "sign"] : List PySem.Str)) (ps := (["thing"] : List PySem.Str)) (ks := [.fz]) (Γl := [.fz]) (Γ' := [.fz, .fz]) (ro := false) (b := m_f_is_name) D s_f_is_name fun X S cdv A outer s H E hX hK hc hge hro tk gd room po => ?_⟩
  obtain ⟨⟨SK, Sct, F0, H0, ios⟩, Sge, SW, gc, gb, Sro⟩ := S
  have hK1 : SK = K := hK; have hc1 : Sct = ct K := hc; clear hK hc; subst hc1; subst hK1; cases hge; cases hro; subst hX
  have hu := room.units
  have nd : (["thing", "sign"] : List PySem.Str).Nodup := by decide +kernel
  exact ss_cons (Γ1 := [.fz, .fz]) (s_if (t_w (w_or (t_not (t_tru (e_r (e_is (T := .str) (e_r (e_v (pv 0))) rfl (y.free 4) (y.free 5))) rfl)) (w_or1 (t_not (t_chain (c_le hu rfl) (c_le hu rfl) (e_int) (e_cb (b_len rfl) (a_oneR (e_r (e_v (pv 0)))) (y.free 3)) (e_r (e_int))))))) (ss_one (s_ret (e_bl))) (ss_nil)) (ss_one (s_ret (e_cb (b_all rfl rfl) (a_oneR (e_r (e_o (o_lc (own := [("sign", 1)]) (is := [1]) rfl nd (i_any (e_v (pv 0))) rfl (fun _ _ _ _ _ => g_name (i := 1) nd rfl (by first | exact Or.inl rfl | exact Or.inr rfl) (by first | exact Or.inr rfl | exact Or.inl rfl) ⟨_, rfl, by decide⟩) (fun _ _ _ _ _ => ts_nil) (fun _ _ _ _ _ => e_cmp (c_in hu rfl) (e_v (pv 1)) (e_r (e_str))))))) (y.free 6))))
end Law
namespace Law
open PySem PySem.Spec PyProof.Rows L2 G
/-! ### is_whole -/
noncomputable def m_f_is_whole : MS := mRet (mAndV (m1 (dIs .int) (mV 0)) (m1 dNot (m1 (dIs .bool) (mV 0))))
noncomputable def MF_f_is_whole : MFn := mFn 1 [.fz] false m_f_is_whole
theorem s_f_is_whole : FnScope (["thing"] : List PySem.Str) (["thing"] : List PySem.Str) (d_f_is_whole).scope := ⟨rfl, rfl, rfl, by decide +kernel, rfl, by decide +kernel, by decide +kernel⟩
theorem w_f_is_whole {P : Program} {w : World} {K : Frag} {mg : PySem.Str → Option Value} {h : Heap} (y : Hy K mg h) : ∃ fd, FunD K (d_f_is_whole).name (d_f_is_whole).qual (d_f_is_whole).params (d_f_is_whole).body (d_f_is_whole).scope ((d_f_is_whole).dvs K) ((d_f_is_whole).kws K) (He.fAd K ("is_whole", none)) fd ∧ BnF K fd (["thing"] : List PySem.Str) ∧ PySem.W.keepIn K (.ref (He.fAd K ("is_whole", none))) = true ∧ mg "is_whole" = some (.ref (He.fAd K ("is_whole", none))) ∧ ∀ base : Heap, FnG P w K mg base (L2.CX P w) 1 (He.fAd K ("is_whole", none)) fd (["thing"] : List PySem.Str) (SpG K (ct K) [.fz] false MF_f_is_whole) := by
  obtain ⟨fd, D⟩ := y.says.def_ 2
  refine ⟨fd, D, (bnF (D.bindsN fun _ _ _ _ _ _ us hl => match us, hl with | [_], _ => rfl)), D.kp, y.glo 10, fun base => fn_g (N := (["thing"] : List PySem.Str)) (ps := (["thing"] : List PySem.Str)) (ks := [.fz]) (Γl := []) (Γ' := [.fz]) (ro := false) (b := m_f_is_whole) D s_f_is_whole fun X S cdv A outer s H E hX hK hc hge hro tk gd room po => ?_⟩
  obtain ⟨⟨SK, Sct, F0, H0, ios⟩, Sge, SW, gc, gb, Sro⟩ := S
  have hK1 : SK = K := hK; have hc1 : Sct = ct K := hc; clear hK hc; subst hc1; subst hK1; cases hge; cases hro; subst hX
  have hu := room.units
  have nd : (["thing"] : List PySem.Str).Nodup := by decide +kernel
  exact ss_one (s_ret (e_and (e_is (T := .int) (e_r (e_v (pv 0))) rfl (y.free 4) (y.free 9)) (e_one (e_not (e_is (T := .bool) (e_r (e_v (pv 0))) rfl (y.free 4) (y.free 8))))))
end Law
namespace Law
open PySem PySem.Spec PyProof.Rows L2 G
/-! ### is_number -/
noncomputable def m_f_is_number : MS := mRet (mAndV (mCkd 1 0 1 (fun ds _ => ds) MF_f_is_whole (mCons (mV 0) (mNil)) (mNil)) (mCh dLe dLe (mC (.int 0)) (mV 0) (mV 1)))
noncomputable def MF_f_is_number : MFn := mFn 2 [.fz, .fz] false m_f_is_number
theorem s_f_is_number : FnScope (["thing", "most"] : List PySem.Str) (["thing", "most"] : List PySem.Str) (d_f_is_number).scope := ⟨rfl, rfl, rfl, by decide +kernel, rfl, by decide +kernel, by decide +kernel⟩
theorem w_f_is_number {P : Program} {w : World} {K : Frag} {mg : PySem.Str → Option Value} {h : Heap} (y : Hy K mg h) : ∃ fd, FunD K (d_f_is_number).name (d_f_is_number).qual (d_f_is_number).params (d_f_is_number).body (d_f_is_number).scope ((d_f_is_number).dvs K) ((d_f_is_number).kws K) (He.fAd K ("is_number", none)) fd ∧ BnF K fd (["thing", "most"] : List PySem.Str) ∧ PySem.W.keepIn K (.ref (He.fAd K ("is_number", none))) = true ∧ mg "is_number" = some (.ref (He.fAd K ("is_number", none))) ∧ ∀ base : Heap, FnG P w K mg base (L2.CX P w) 2 (He.fAd K ("is_number", none)) fd (["thing", "most"] : List PySem.Str) (SpG K (ct K) [.fz, .fz] false MF_f_is_number) := by
  obtain ⟨fd_f_is_whole, f_is_whole_d, f_is_whole_b, f_is_whole_k, f_is_whole_m, f_is_whole_r⟩ := w_f_is_whole (P := P) (w := w) y
  obtain ⟨fd, D⟩ := y.says.def_ 3
  refine ⟨fd, D, (bnF (D.bindsN fun _ _ _ _ _ _ us hl => match us, hl with | [_, _], _ => rfl)), D.kp, y.glo 11, fun base => fn_g (N := (["thing", "most"] : List PySem.Str)) (ps := (["thing", "most"] : List PySem.Str)) (ks := [.fz, .fz]) (Γl := []) (Γ' := [.fz, .fz]) (ro := false) (b := m_f_is_number) D s_f_is_number fun X S cdv A outer s H E hX hK hc hge hro tk gd room po => ?_⟩
  obtain ⟨⟨SK, Sct, F0, H0, ios⟩, Sge, SW, gc, gb, Sro⟩ := S
  have hK1 : SK = K := hK; have hc1 : Sct = ct K := hc; clear hK hc; subst hc1; subst hK1; cases hge; cases hro; subst hX
  have hu := room.units
  have nd : (["thing", "most"] : List PySem.Str).Nodup := by decide +kernel
  exact ss_one (s_ret (e_and (e_g (ks := [.fz]) (MF := MF_f_is_whole) ⟨(f_is_whole_r base).mono (k := 1) (by decide), gd, room⟩ f_is_whole_m f_is_whole_k f_is_whole_b.d tk (.inl rfl) (a_cons (e_v (pv 0)) (a_nil)) rfl) (e_one (e_chain (c_le hu rfl) (c_le hu rfl) (e_int) (e_v (pv 0)) (e_r (e_v (pv 1)))))))
end Law
namespace Law
open PySem PySem.Spec PyProof.Rows L2 G
/-! ### is_gauge -/
noncomputable def m_f_is_gauge : MS := mRet (mAndV (m1 (dIs .tuple) (mV 0)) (mAndV (m2 dEq (mA dLen (mCons (mV 0) mNil)) (mC (.int 2))) (mAndV (mCkd 1 0 1 (fun ds _ => ds) MF_f_is_name (mCons (m2 dIx (mV 0) (mC (.int 0))) (mNil)) (mNil)) (mCkd 2 0 2 (fun ds _ => ds) MF_f_is_number (mCons (m2 dIx (mV 0) (mC (.int 1))) (mCons (mC (.int (1000000000))) (mNil))) (mNil)))))
noncomputable def MF_f_is_gauge : MFn := mFn 1 [.fz] false m_f_is_gauge
theorem s_f_is_gauge : FnScope (["thing"] : List PySem.Str) (["thing"] : List PySem.Str) (d_f_is_gauge).scope := ⟨rfl, rfl, rfl, by decide +kernel, rfl, by decide +kernel, by decide +kernel⟩
theorem w_f_is_gauge {P : Program} {w : World} {K : Frag} {mg : PySem.Str → Option Value} {h : Heap} (y : Hy K mg h) : ∃ fd, FunD K (d_f_is_gauge).name (d_f_is_gauge).qual (d_f_is_gauge).params (d_f_is_gauge).body (d_f_is_gauge).scope ((d_f_is_gauge).dvs K) ((d_f_is_gauge).kws K) (He.fAd K ("is_gauge", none)) fd ∧ BnF K fd (["thing"] : List PySem.Str) ∧ PySem.W.keepIn K (.ref (He.fAd K ("is_gauge", none))) = true ∧ mg "is_gauge" = some (.ref (He.fAd K ("is_gauge", none))) ∧ ∀ base : Heap, FnG P w K mg base (L2.CX P w) 3 (He.fAd K ("is_gauge", none)) fd (["thing"] : List PySem.Str) (SpG K (ct K) [.fz] false MF_f_is_gauge) := by
  obtain ⟨fd_f_is_number, f_is_number_d, f_is_number_b, f_is_number_k, f_is_number_m, f_is_number_r⟩ := w_f_is_number (P := P) (w := w) y
  obtain ⟨fd_f_is_name, f_is_name_d, f_is_name_b, f_is_name_k, f_is_name_m, f_is_name_r⟩ := w_f_is_name (P := P) (w := w) y
  obtain ⟨fd, D⟩ := y.says.def_ 4
  refine ⟨fd, D, (bnF (D.bindsN fun _ _ _ _ _ _ us hl => match us, hl with | [_], _ => rfl)), D.kp, y.glo 13, fun base => fn_g (N := (["thing"] : List PySem.Str)) (ps := (["thing"] : List PySem.Str)) (ks := [.fz]) (Γl := []) (Γ' := [.fz]) (ro := false) (b := m_f_is_gauge) D s_f_is_gauge fun X S cdv A outer s H E hX hK hc hge hro tk gd room po => ?_⟩
  obtain ⟨⟨SK, Sct, F0, H0, ios⟩, Sge, SW, gc, gb, Sro⟩ := S
  have hK1 : SK = K := hK; have hc1 : Sct = ct K := hc; clear hK hc; subst hc1; subst hK1; cases hge; cases hro; subst hX
  have hu := room.units
  have nd : (["thing"] : List PySem.Str).Nodup := by decide +kernel
  exact ss_one (s_ret (e_and (e_is (T := .tuple) (e_r (e_v (pv 0))) rfl (y.free 4) (y.free 0)) (e_and (e_cmp (c_eq hu rfl) (e_cb (b_len rfl) (a_oneR (e_r (e_v (pv 0)))) (y.free 3)) (e_r (e_int))) (e_and (e_g (ks := [.fz]) (MF := MF_f_is_name) ⟨(f_is_name_r base).mono (k := 2) (by decide), gd, room⟩ f_is_name_m f_is_name_k f_is_name_b.d tk (.inl rfl) (a_cons (e_ix (e_v (pv 0)) (e_int)) (a_nil)) rfl) (e_one (e_g (ks := [.fz, .fz]) (MF := MF_f_is_number) ⟨(f_is_number_r base).mono (k := 2) (by decide), gd, room⟩ f_is_number_m f_is_number_k f_is_number_b.d tk (.inl rfl) (a_cons (e_ix (e_v (pv 0)) (e_int)) (a_cons (e_gint (y.int_ 12)) (a_nil))) rfl))))))
end Law
namespace Law
open PySem PySem.Spec PyProof.Rows L2 G
/-! ### odd_gauge -/
noncomputable def b_f_odd_gauge_1 : MS := (mIfS (mOr (mNot (mT (mCkd 1 0 1 (fun ds _ => ds) MF_f_is_gauge (mCons (mV 3) (mNil)) (mNil)))) (mB (m2 dLe (m2 dIx (mV 3) (mC (.int 0))) (mV 1)))) (mRet (mV 2)) (mNx)).sq (mSet 1 (m2 dIx (mV 3) (mC (.int 0))))
noncomputable def l_f_odd_gauge_1 : MS := mFor (mEn (mCons (mV 0) (mNil))) (gT 2 (gC (gN 2) (gC (gN 3) (gE)))) b_f_odd_gauge_1
noncomputable def m_f_odd_gauge : MS := (mSet 1 (mC (.str ""))).sq ((l_f_odd_gauge_1).sq (mRet (mC .non)))
noncomputable def MF_f_odd_gauge : MFn := mFn 4 [.fz] false m_f_odd_gauge
theorem s_f_odd_gauge : FnScope (["gauges", "last", "place", "gauge"] : List PySem.Str) (["gauges"] : List PySem.Str) (d_f_odd_gauge).scope := ⟨rfl, rfl, rfl, by decide +kernel, rfl, by decide +kernel, by decide +kernel⟩
theorem w_f_odd_gauge {P : Program} {w : World} {K : Frag} {mg : PySem.Str → Option Value} {h : Heap} (y : Hy K mg h) : ∃ fd, FunD K (d_f_odd_gauge).name (d_f_odd_gauge).qual (d_f_odd_gauge).params (d_f_odd_gauge).body (d_f_odd_gauge).scope ((d_f_odd_gauge).dvs K) ((d_f_odd_gauge).kws K) (He.fAd K ("odd_gauge", none)) fd ∧ BnF K fd (["gauges"] : List PySem.Str) ∧ PySem.W.keepIn K (.ref (He.fAd K ("odd_gauge", none))) = true ∧ mg "odd_gauge" = some (.ref (He.fAd K ("odd_gauge", none))) ∧ ∀ base : Heap, FnG P w K mg base (L2.CX P w) 4 (He.fAd K ("odd_gauge", none)) fd (["gauges"] : List PySem.Str) (SpG K (ct K) [.fz] false MF_f_odd_gauge) := by
  obtain ⟨fd_f_is_gauge, f_is_gauge_d, f_is_gauge_b, f_is_gauge_k, f_is_gauge_m, f_is_gauge_r⟩ := w_f_is_gauge (P := P) (w := w) y
  obtain ⟨fd, D⟩ := y.says.def_ 5
  refine ⟨fd, D, (bnF (D.bindsN fun _ _ _ _ _ _ us hl => match us, hl with | [_], _ => rfl)), D.kp, y.glo 15, fun base => fn_g (N := (["gauges", "last", "place", "gauge"] : List PySem.Str)) (ps := (["gauges"] : List PySem.Str)) (ks := [.fz]) (Γl := [.fz, .fz, .fz]) (Γ' := [.fz, .fz, .fz, .fz]) (ro := false) (b := m_f_odd_gauge) D s_f_odd_gauge fun X S cdv A outer s H E hX hK hc hge hro tk gd room po => ?_⟩
  obtain ⟨⟨SK, Sct, F0, H0, ios⟩, Sge, SW, gc, gb, Sro⟩ := S
  have hK1 : SK = K := hK; have hc1 : Sct = ct K := hc; clear hK hc; subst hc1; subst hK1; cases hge; cases hro; subst hX
  have hu := room.units
  have nd : (["gauges", "last", "place", "gauge"] : List PySem.Str).Nodup := by decide +kernel
  exact ss_cons (Γ1 := [.fz, .fz, .fz, .fz]) (s_set (i := 1) (e_str) nd rfl (by first | exact Or.inl rfl | exact Or.inr rfl) (by first | exact Or.inr rfl | exact Or.inl rfl) ⟨_, rfl, by decide⟩) (ss_cons (Γ1 := [.fz, .fz, .fz, .fz]) (s_for (Γ1 := [.fz, .fz, .fz, .fz]) (is := [2, 3]) po rfl (i_en (a_cons (e_v (pv 0)) (a_nil)) (y.free 14)) (g_tup rfl (g_cons (g_name (i := 2) nd rfl (by first | exact Or.inl rfl | exact Or.inr rfl) (by first | exact Or.inr rfl | exact Or.inl rfl) ⟨_, rfl, by decide⟩) (g_cons (g_name (i := 3) nd rfl (by first | exact Or.inl rfl | exact Or.inr rfl) (by first | exact Or.inr rfl | exact Or.inl rfl) ⟨_, rfl, by decide⟩) (g_nil)))) (ss_cons (Γ1 := [.fz, .fz, .fz, .fz]) (s_if (t_w (w_or (t_not (t_tru (e_r (e_g (ks := [.fz]) (MF := MF_f_is_gauge) ⟨(f_is_gauge_r base).mono (k := 3) (by decide), gd, room⟩ f_is_gauge_m f_is_gauge_k f_is_gauge_b.d tk (.inl rfl) (a_cons (e_v (pv 3)) (a_nil)) rfl)) rfl)) (w_or1 (t_cmp (c_le hu rfl) (e_ix (e_v (pv 3)) (e_int)) (e_r (e_v (pv 1))))))) (ss_one (s_ret (e_v (pv 2)))) (ss_nil)) (ss_one (s_set (i := 1) (e_ix (e_v (pv 3)) (e_int)) nd rfl (by first | exact Or.inl rfl | exact Or.inr rfl) (by first | exact Or.inr rfl | exact Or.inl rfl) ⟨_, rfl, by decide⟩)))) (ss_one (s_ret (e_non))))
end Law
namespace Law
open PySem PySem.Spec PyProof.Rows L2 G
/-! ### is_rod -/
noncomputable def c_f_is_rod_1 : M D := mLc [2] (mIt (mV 0)) (gN 2) (mYes) (mAndV (mCkd 1 0 1 (fun ds _ => ds) MF_f_is_name (mCons (mV 2) (mNil)) (mNil)) (m2 dIn (mV 2) (mV 1)))
noncomputable def m_f_is_rod : MS := (mIfS (mOr (mNot (mT (m1 (dIs .tuple) (mV 0)))) (mB (m2 dNe (mA dLen (mCons (mV 0) mNil)) (mC (.int 2))))) (mRet (mC (.bl false))) (mNx)).sq (mRet (mAndV (mA dAll (mCons (c_f_is_rod_1) mNil)) (m2 dLt (m2 dIx (mV 0) (mC (.int 0))) (m2 dIx (mV 0) (mC (.int 1))))))
noncomputable def MF_f_is_rod : MFn := mFn 3 [.fz, .fz] false m_f_is_rod
theorem s_f_is_rod : FnScope (["thing", "names", "name"] : List PySem.Str) (["thing", "names"] : List PySem.Str) (d_f_is_rod).scope := ⟨rfl, rfl, rfl, by decide +kernel, rfl, by decide +kernel, by decide +kernel⟩
theorem w_f_is_rod {P : Program} {w : World} {K : Frag} {mg : PySem.Str → Option Value} {h : Heap} (y : Hy K mg h) : ∃ fd, FunD K (d_f_is_rod).name (d_f_is_rod).qual (d_f_is_rod).params (d_f_is_rod).body (d_f_is_rod).scope ((d_f_is_rod).dvs K) ((d_f_is_rod).kws K) (He.fAd K ("is_rod", none)) fd ∧ BnF K fd (["thing", "names"] : List PySem.Str) ∧ PySem.W.keepIn K (.ref (He.fAd K ("is_rod", none))) = true ∧ mg "is_rod" = some (.ref (He.fAd K ("is_rod", none))) ∧ ∀ base : Heap, FnG P w K mg base (L2.CX P w) 2 (He.fAd K ("is_rod", none)) fd (["thing", "names"] : List PySem.Str) (SpG K (ct K) [.fz, .fz] false MF_f_is_rod) := by
  obtain ⟨fd_f_is_name, f_is_name_d, f_is_name_b, f_is_name_k, f_is_name_m, f_is_name_r⟩ := w_f_is_name (P := P) (w := w) y
  obtain ⟨fd, D⟩ := y.says.def_ 6
  refine ⟨fd, D, (bnF (D.bindsN fun _ _ _ _ _ _ us hl => match us, hl with | [_, _], _ => rfl)), D.kp, y.glo 16, fun base => fn_g (N := (["thing", "names", "name"] : List PySem.Str)) (ps := (["thing", "names"] : List PySem.Str)) (ks := [.fz, .fz]) (Γl := [.fz]) (Γ' := [.fz, .fz, .fz]) (ro := false) (b := m_f_is_rod) D s_f_is_rod fun X S cdv A outer s H E hX hK hc hge hro tk gd room po => ?_⟩
  obtain ⟨⟨SK, Sct, F0, H0, ios⟩, Sge, SW, gc, gb, Sro⟩ := S
  have hK1 : SK = K := hK; have hc1 : Sct = ct K := hc; clear hK hc; subst hc1; subst hK1; cases hge; cases hro; subst hX
  have hu := room.units
  have nd : (["thing", "names", "name"] : List PySem.Str).Nodup := by decide +kernel
  exact ss_cons (Γ1 := [.fz, .fz, .fz]) (s_if (t_w (w_or (t_not (t_tru (e_r (e_is (T := .tuple) (e_r (e_v (pv 0))) rfl (y.free 4) (y.free 0))) rfl)) (w_or1 (t_cmp (c_ne hu rfl) (e_cb (b_len rfl) (a_oneR (e_r (e_v (pv 0)))) (y.free 3)) (e_r (e_int)))))) (ss_one (s_ret (e_bl))) (ss_nil)) (ss_one (s_ret (e_and (e_cb (b_all rfl rfl) (a_oneR (e_r (e_o (o_lc (own := [("name", 2)]) (is := [2]) rfl nd (i_any (e_v (pv 0))) rfl (fun _ _ _ _ _ => g_name (i := 2) nd rfl (by first | exact Or.inl rfl | exact Or.inr rfl) (by first | exact Or.inr rfl | exact Or.inl rfl) ⟨_, rfl, by decide⟩) (fun _ _ _ _ _ => ts_nil) (fun _ _ _ _ _ => e_and (e_g (ks := [.fz]) (MF := MF_f_is_name) ⟨(f_is_name_r base).mono (k := 1) (by decide), gd, room⟩ f_is_name_m f_is_name_k f_is_name_b.d tk_no (.inl rfl) (a_cons (e_v (pv 2)) (a_nil)) rfl) (e_one (e_cmp (c_in hu rfl) (e_v (pv 2)) (e_r (e_v (pv 1)))))))))) (y.free 6)) (e_one (e_cmp (c_lt hu rfl) (e_ix (e_v (pv 0)) (e_int)) (e_r (e_ix (e_v (pv 0)) (e_int))))))))
end Law
namespace Law
open PySem PySem.Spec PyProof.Rows L2 G
/-! ### odd_rod -/
noncomputable def b_f_odd_rod_1 : MS := (mIfS (mOr (mNot (mT (mCkd 2 0 2 (fun ds _ => ds) MF_f_is_rod (mCons (mV 4) (mCons (mV 1) (mNil))) (mNil)))) (mB (m2 dLe (mV 4) (mV 2)))) (mRet (mV 3)) (mNx)).sq (mSet 2 (mV 4))
noncomputable def l_f_odd_rod_1 : MS := mFor (mEn (mCons (mV 0) (mNil))) (gT 2 (gC (gN 3) (gC (gN 4) (gE)))) b_f_odd_rod_1
noncomputable def m_f_odd_rod : MS := (mSet 2 (mTup (mCons (mC (.str "")) (mCons (mC (.str "")) (mNil))))).sq ((l_f_odd_rod_1).sq (mRet (mC .non)))
noncomputable def MF_f_odd_rod : MFn := mFn 5 [.fz, .fz] false m_f_odd_rod
theorem s_f_odd_rod : FnScope (["rods", "names", "last", "place", "rod"] : List PySem.Str) (["rods", "names"] : List PySem.Str) (d_f_odd_rod).scope := ⟨rfl, rfl, rfl, by decide +kernel, rfl, by decide +kernel, by decide +kernel⟩
theorem w_f_odd_rod {P : Program} {w : World} {K : Frag} {mg : PySem.Str → Option Value} {h : Heap} (y : Hy K mg h) : ∃ fd, FunD K (d_f_odd_rod).name (d_f_odd_rod).qual (d_f_odd_rod).params (d_f_odd_rod).body (d_f_odd_rod).scope ((d_f_odd_rod).dvs K) ((d_f_odd_rod).kws K) (He.fAd K ("odd_rod", none)) fd ∧ BnF K fd (["rods", "names"] : List PySem.Str) ∧ PySem.W.keepIn K (.ref (He.fAd K ("odd_rod", none))) = true ∧ mg "odd_rod" = some (.ref (He.fAd K ("odd_rod", none))) ∧ ∀ base : Heap, FnG P w K mg base (L2.CX P w) 3 (He.fAd K ("odd_rod", none)) fd (["rods", "names"] : List PySem.Str) (SpG K (ct K) [.fz, .fz] false MF_f_odd_rod) := by
  obtain ⟨fd_f_is_rod, f_is_rod_d, f_is_rod_b, f_is_rod_k, f_is_rod_m, f_is_rod_r⟩ := w_f_is_rod (P := P) (w := w) y
  obtain ⟨fd, D⟩ := y.says.def_ 7
  refine ⟨fd, D, (bnF (D.bindsN fun _ _ _ _ _ _ us hl => match us, hl with | [_, _], _ => rfl)), D.kp, y.glo 17, fun base => fn_g (N := (["rods", "names", "last", "place", "rod"] : List PySem.Str)) (ps := (["rods", "names"] : List PySem.Str)) (ks := [.fz, .fz]) (Γl := [.fz, .fz, .fz]) (Γ' := [.fz, .fz, .fz, .fz, .fz]) (ro := false) (b := m_f_odd_rod) D s_f_odd_rod fun X S cdv A outer s H E hX hK hc hge hro tk gd room po => ?_⟩
  obtain ⟨⟨SK, Sct, F0, H0, ios⟩, Sge, SW, gc, gb, Sro⟩ := S
  have hK1 : SK = K := hK; have hc1 : Sct = ct K := hc; clear hK hc; subst hc1; subst hK1; cases hge; cases hro; subst hX
  have hu := room.units
  have nd : (["rods", "names", "last", "place", "rod"] : List PySem.Str).Nodup := by decide +kernel
  exact ss_cons (Γ1 := [.fz, .fz, .fz, .fz, .fz]) (s_set (i := 2) (e_tup (a_cons (e_str) (a_cons (e_str) (a_nil)))) nd rfl (by first | exact Or.inl rfl | exact Or.inr rfl) (by first | exact Or.inr rfl | exact Or.inl rfl) ⟨_, rfl, by decide⟩) (ss_cons (Γ1 := [.fz, .fz, .fz, .fz, .fz]) (s_for (Γ1 := [.fz, .fz, .fz, .fz, .fz]) (is := [3, 4]) po rfl (i_en (a_cons (e_v (pv 0)) (a_nil)) (y.free 14)) (g_tup rfl (g_cons (g_name (i := 3) nd rfl (by first | exact Or.inl rfl | exact Or.inr rfl) (by first | exact Or.inr rfl | exact Or.inl rfl) ⟨_, rfl, by decide⟩) (g_cons (g_name (i := 4) nd rfl (by first | exact Or.inl rfl | exact Or.inr rfl) (by first | exact Or.inr rfl | exact Or.inl rfl) ⟨_, rfl, by decide⟩) (g_nil)))) (ss_cons (Γ1 := [.fz, .fz, .fz, .fz, .fz]) (s_if (t_w (w_or (t_not (t_tru (e_r (e_g (ks := [.fz, .fz]) (MF := MF_f_is_rod) ⟨(f_is_rod_r base).mono (k := 2) (by decide), gd, room⟩ f_is_rod_m f_is_rod_k f_is_rod_b.d tk (.inl rfl) (a_cons (e_v (pv 4)) (a_cons (e_v (pv 1)) (a_nil))) rfl)) rfl)) (w_or1 (t_cmp (c_le hu rfl) (e_v (pv 4)) (e_r (e_v (pv 2))))))) (ss_one (s_ret (e_v (pv 3)))) (ss_nil)) (ss_one (s_set (i := 2) (e_v (pv 4)) nd rfl (by first | exact Or.inl rfl | exact Or.inr rfl) (by first | exact Or.inr rfl | exact Or.inl rfl) ⟨_, rfl, by decide⟩)))) (ss_one (s_ret (e_non))))
end Law
namespace Law
open PySem PySem.Spec PyProof.Rows L2 G
/-! ### Moor.__init__ -/
noncomputable def c_f_Moor_init_1 : M D := mLc [4, 5] (mIt (mV 1)) (gT 2 (gC (gN 4) (gC (gN 5) (gE)))) (mYes) (mV 4)
noncomputable def m_f_Moor_init : MS := (mIfS (mOr (mNot (mT (m1 (dIs .tuple) (mV 1)))) (mB (m2 dGt (mA dLen (mCons (mV 1) mNil)) (mC (.int (12)))))) (sNo) (mNx)).sq ((mSet 3 (mCkd 1 0 1 (fun ds _ => ds) MF_f_odd_gauge (mCons (mV 1) (mNil)) (mNil))).sq ((mIfS (mB (m2 (dIsN true) (mV 3) (mC .non))) (sNo) (mNx)).sq ((mIfS (mNot (mT (m1 (dIs .tuple) (mV 2)))) (sNo) (mNx)).sq ((mSet 3 (mCkd 2 0 2 (fun ds _ => ds) MF_f_odd_rod (mCons (mV 2) (mCons (c_f_Moor_init_1) (mNil))) (mNil))).sq ((mIfS (mB (m2 (dIsN true) (mV 3) (mC .non))) (sNo) (mNx)).sq ((mFl 0 0 0 (mV 1)).sq (mFl 0 0 1 (mV 2))))))))
noncomputable def MF_f_Moor_init : MFn := mFn 6 [.io, .fz, .fz] false m_f_Moor_init
theorem s_f_Moor_init : FnScope (["self", "gauges", "rods", "place", "name", "top"] : List PySem.Str) (["self", "gauges", "rods"] : List PySem.Str) (d_f_Moor_init).scope := ⟨rfl, rfl, rfl, by decide +kernel, rfl, by decide +kernel, by decide +kernel⟩
theorem w_f_Moor_init {P : Program} {w : World} {K : Frag} {mg : PySem.Str → Option Value} {h : Heap} (y : Hy K mg h) : ∃ fd, FunD K (d_f_Moor_init).name (d_f_Moor_init).qual (d_f_Moor_init).params (d_f_Moor_init).body (d_f_Moor_init).scope ((d_f_Moor_init).dvs K) ((d_f_Moor_init).kws K) (He.fAd K ("Moor", some "__init__")) fd ∧ True ∧ PySem.W.keepIn K (.ref (He.fAd K ("Moor", some "__init__"))) = true ∧ ∀ base : Heap, FnG P w K mg base (L2.CX P w) 5 (He.fAd K ("Moor", some "__init__")) fd (["self", "gauges", "rods"] : List PySem.Str) (SpG K (ct K) [.io, .fz, .fz] false MF_f_Moor_init) := by
  obtain ⟨fd_f_odd_gauge, f_odd_gauge_d, f_odd_gauge_b, f_odd_gauge_k, f_odd_gauge_m, f_odd_gauge_r⟩ := w_f_odd_gauge (P := P) (w := w) y
  obtain ⟨fd_f_odd_rod, f_odd_rod_d, f_odd_rod_b, f_odd_rod_k, f_odd_rod_m, f_odd_rod_r⟩ := w_f_odd_rod (P := P) (w := w) y
  obtain ⟨fd, D⟩ := y.says.def_ 8
  refine ⟨fd, D, trivial, D.kp, fun base => fn_g (N := (["self", "gauges", "rods", "place", "name", "top"] : List PySem.Str)) (ps := (["self", "gauges", "rods"] : List PySem.Str)) (ks := [.io, .fz, .fz]) (Γl := [.fz, .fz, .fz]) (Γ' := [.io, .fz, .fz, .fz, .fz, .fz]) (ro := false) (b := m_f_Moor_init) D s_f_Moor_init fun X S cdv A outer s H E hX hK hc hge hro tk gd room po => ?_⟩
  obtain ⟨⟨SK, Sct, F0, H0, ios⟩, Sge, SW, gc, gb, Sro⟩ := S
  have hK1 : SK = K := hK; have hc1 : Sct = ct K := hc; clear hK hc; subst hc1; subst hK1; cases hge; cases hro; subst hX
  have hu := room.units
  have nd : (["self", "gauges", "rods", "place", "name", "top"] : List PySem.Str).Nodup := by decide +kernel
  exact ss_cons (Γ1 := [.io, .fz, .fz, .fz, .fz, .fz]) (s_if (t_w (w_or (t_not (t_tru (e_r (e_is (T := .tuple) (e_r (e_v (pv 1))) rfl (y.free 4) (y.free 0))) rfl)) (w_or1 (t_cmp (c_gt hu rfl) (e_cb (b_len rfl) (a_oneR (e_r (e_v (pv 1)))) (y.free 3)) (e_r (e_gint (y.int_ 18))))))) (ss_one (s_never)) (ss_nil)) (ss_cons (Γ1 := [.io, .fz, .fz, .fz, .fz, .fz]) (s_set (i := 3) (e_g (ks := [.fz]) (MF := MF_f_odd_gauge) ⟨(f_odd_gauge_r base).mono (k := 4) (by decide), gd, room⟩ f_odd_gauge_m f_odd_gauge_k f_odd_gauge_b.d tk (.inl rfl) (a_cons (e_v (pv 1)) (a_nil)) rfl) nd rfl (by first | exact Or.inl rfl | exact Or.inr rfl) (by first | exact Or.inr rfl | exact Or.inl rfl) ⟨_, rfl, by decide⟩) (ss_cons (Γ1 := [.io, .fz, .fz, .fz, .fz, .fz]) (s_if (t_cmp (c_isnot hu rfl) (e_v (pv 3)) (e_r (e_non))) (ss_one (s_never)) (ss_nil)) (ss_cons (Γ1 := [.io, .fz, .fz, .fz, .fz, .fz]) (s_if (t_not (t_tru (e_r (e_is (T := .tuple) (e_r (e_v (pv 2))) rfl (y.free 4) (y.free 0))) rfl)) (ss_one (s_never)) (ss_nil)) (ss_cons (Γ1 := [.io, .fz, .fz, .fz, .fz, .fz]) (s_set (i := 3) (e_g (ks := [.fz, .fz]) (MF := MF_f_odd_rod) ⟨(f_odd_rod_r base).mono (k := 4) (by decide), gd, room⟩ f_odd_rod_m f_odd_rod_k f_odd_rod_b.d tk (.inl rfl) (a_cons (e_v (pv 2)) (a_cons (e_o (o_lc (own := [("name", 4), ("top", 5)]) (is := [4, 5]) rfl nd (i_any (e_v (pv 1))) rfl (fun _ _ _ _ _ => g_tup rfl (g_cons (g_name (i := 4) nd rfl (by first | exact Or.inl rfl | exact Or.inr rfl) (by first | exact Or.inr rfl | exact Or.inl rfl) ⟨_, rfl, by decide⟩) (g_cons (g_name (i := 5) nd rfl (by first | exact Or.inl rfl | exact Or.inr rfl) (by first | exact Or.inr rfl | exact Or.inl rfl) ⟨_, rfl, by decide⟩) (g_nil)))) (fun _ _ _ _ _ => ts_nil) (fun _ _ _ _ _ => e_v (pv 4)))) (a_nil))) rfl) nd rfl (by first | exact Or.inl rfl | exact Or.inr rfl) (by first | exact Or.inr rfl | exact Or.inl rfl) ⟨_, rfl, by decide⟩) (ss_cons (Γ1 := [.io, .fz, .fz, .fz, .fz, .fz]) (s_if (t_cmp (c_isnot hu rfl) (e_v (pv 3)) (e_r (e_non))) (ss_one (s_never)) (ss_nil)) (ss_cons (Γ1 := [.io, .fz, .fz, .fz, .fz, .fz]) (s_fl (c := 0) (j := 0) (pv 0) (e_v (pv 1)) rfl (by decide) rfl (y.cls_ 19) (y.noat 20) rfl ndc_0 lnc_0) (ss_one (s_fl (c := 0) (j := 1) (pv 0) (e_v (pv 2)) rfl (by decide) rfl (y.cls_ 19) (y.noat 21) rfl ndc_0 lnc_0))))))))
end Law
namespace Law
open PySem PySem.Spec PyProof.Rows L2 G
/-! ### _law_draw -/
noncomputable def m_f_law_draw : MS := (mAsg (gSb 0 (mC (.int 2))) (m2 dAdd (m2L dIx 0 (mC (.int 2))) (mC (.int 1)))).sq ((mIfS (mB (m2 dGt (m2L dIx 0 (mC (.int 0))) (mC (.int 0)))) ((mAsg (gT 2 (gC (gSb 0 (mC (.int 0))) (gC (gN 2) (gE)))) (mA dDm (mCons (m2L dIx 0 (mC (.int 0))) (mCons (mV 1) mNil)))).sq (mRet (mV 2))) (mNx)).sq ((mSet 3 (m2 dMd (m2L dIx 0 (mC (.int 1))) (mC (.int 1000000207)))).sq ((mAsg (gSb 0 (mC (.int 1))) (m2 dAdd (m2 dMul (mV 3) (m2 dAdd (m2 dMd (mV 3) (mC (.int 44017))) (mC (.int 28001)))) (m2 dMul (mC (.int 70003)) (m2L dIx 0 (mC (.int 2)))))).sq (mRet (m2 dMd (m2 dFd (m2 dMd (m2L dIx 0 (mC (.int 1))) (mC (.int 1000000207))) (mC (.int 32))) (mV 1))))))
noncomputable def MF_f_law_draw : MFn := mFn 4 [.io, .fz] false m_f_law_draw
theorem s_f_law_draw : FnScope (["_law_hand_here", "_law_upto", "_law_digit", "_law_state"] : List PySem.Str) (["_law_hand_here", "_law_upto"] : List PySem.Str) (d_f_law_draw).scope := ⟨rfl, rfl, rfl, by decide +kernel, rfl, by decide +kernel, by decide +kernel⟩
theorem w_f_law_draw {P : Program} {w : World} {K : Frag} {mg : PySem.Str → Option Value} {h : Heap} (y : Hy K mg h) : ∃ fd, FunD K (d_f_law_draw).name (d_f_law_draw).qual (d_f_law_draw).params (d_f_law_draw).body (d_f_law_draw).scope ((d_f_law_draw).dvs K) ((d_f_law_draw).kws K) (He.fAd K ("_law_draw", none)) fd ∧ BnF K fd (["_law_hand_here", "_law_upto"] : List PySem.Str) ∧ PySem.W.keepIn K (.ref (He.fAd K ("_law_draw", none))) = true ∧ mg "_law_draw" = some (.ref (He.fAd K ("_law_draw", none))) ∧ ∀ base : Heap, FnG P w K mg base (L2.CX P w) 1 (He.fAd K ("_law_draw", none)) fd (["_law_hand_here", "_law_upto"] : List PySem.Str) (SpG K (ct K) [.io, .fz] false MF_f_law_draw) := by
  obtain ⟨fd, D⟩ := y.says.def_ 9
  refine ⟨fd, D, (bnF (D.bindsN fun _ _ _ _ _ _ us hl => match us, hl with | [_, _], _ => rfl)), D.kp, y.glo 23, fun base => fn_g (N := (["_law_hand_here", "_law_upto", "_law_digit", "_law_state"] : List PySem.Str)) (ps := (["_law_hand_here", "_law_upto"] : List PySem.Str)) (ks := [.io, .fz]) (Γl := [.fz, .fz]) (Γ' := [.io, .fz, .fz, .fz]) (ro := false) (b := m_f_law_draw) D s_f_law_draw fun X S cdv A outer s H E hX hK hc hge hro tk gd room po => ?_⟩
  obtain ⟨⟨SK, Sct, F0, H0, ios⟩, Sge, SW, gc, gb, Sro⟩ := S
  have hK1 : SK = K := hK; have hc1 : Sct = ct K := hc; clear hK hc; subst hc1; subst hK1; cases hge; cases hro; subst hX
  have hu := room.units
  have nd : (["_law_hand_here", "_law_upto", "_law_digit", "_law_state"] : List PySem.Str).Nodup := by decide +kernel
  exact ss_cons (Γ1 := [.io, .fz, .fz, .fz]) (s_asgW (e_add (e_ixL (pv 0) (e_int)) (e_r (e_int))) (gw_sub (pv 0) (e_int) rfl (by decide))) (ss_cons (Γ1 := [.io, .fz, .fz, .fz]) (s_if (t_cmp (c_gt hu rfl) (e_ixL (pv 0) (e_int)) (e_r (e_int))) (ss_cons (Γ1 := [.io, .fz, .fz, .fz]) (s_asgW (e_cb (b_divmod) (a_consR (e_ixL (pv 0) (e_int)) (a_oneR (e_r (e_v (pv 1))))) (y.free 22)) (gw_tup rfl (gw_cons (gw_sub (pv 0) (e_int) rfl (by decide)) (gw_cons (gw_of (g_name (i := 2) nd rfl (by first | exact Or.inl rfl | exact Or.inr rfl) (by first | exact Or.inr rfl | exact Or.inl rfl) ⟨_, rfl, by decide⟩)) (gw_nil))) rfl)) (ss_one (s_ret (e_v (pv 2))))) (ss_nil)) (ss_cons (Γ1 := [.io, .fz, .fz, .fz]) (s_set (i := 3) (e_md (e_ixL (pv 0) (e_int)) (e_r (e_int))) nd rfl (by first | exact Or.inl rfl | exact Or.inr rfl) (by first | exact Or.inr rfl | exact Or.inl rfl) ⟨_, rfl, by decide⟩) (ss_cons (Γ1 := [.io, .fz, .fz, .fz]) (s_asgW (e_add (e_mul (e_v (pv 3)) (e_r (e_add (e_md (e_v (pv 3)) (e_r (e_int))) (e_r (e_int))))) (e_r (e_mul (e_int) (e_r (e_ixL (pv 0) (e_int)))))) (gw_sub (pv 0) (e_int) rfl (by decide))) (ss_one (s_ret (e_md (e_fd (e_md (e_ixL (pv 0) (e_int)) (e_r (e_int))) (e_r (e_int))) (e_r (e_v (pv 1)))))))))
end Law
namespace Law
open PySem PySem.Spec PyProof.Rows L2 G
/-! ### _law_sat -/
noncomputable def c_f_law_sat_1 : M D := mLc [5] (mIt (mV 1)) (gN 5) (mYes) (m2 dFd (mV 5) (mC (.int 2)))
noncomputable def b_f_law_sat_1 : MS := (mSet 6 (mLst (mCons (mV 5) (mCons (m2 dMul (mV 3) (mCallH [.sl 0, .fz] MF_f_law_draw ((mV 0).bind fun _ => mCons (m2 dAdd (m2 dFd (mV 5) (mV 3)) (mC (.int 1))) (mNil)))) (mCons (mCallH [.sl 0, .fz] MF_f_law_draw ((mV 0).bind fun _ => mCons (m2 dAdd (mV 5) (mC (.int 1))) (mNil))) (mCons (mA dMin2 (mCons (mV 5) (mCons (mV 3) mNil))) (mNil))))))).sq ((mSet 7 (m2 dIx (mV 6) (mCallH [.sl 0, .fz] MF_f_law_draw ((mV 0).bind fun _ => mCons (mC (.int 4)) (mNil))))).sq (mExp (mMl 2 hAppend (mCons (mIf (mB (m2 dGe (mCallH [.sl 0, .fz] MF_f_law_draw ((mV 0).bind fun _ => mCons (mC (.int 5)) (mNil))) (mV 4))) (mV 7) (mC (.int 0))) (mNil)))))
noncomputable def l_f_law_sat_1 : MS := mFor (mIt (mV 1)) (gN 5) b_f_law_sat_1
noncomputable def m_f_law_sat : MS := (mPar [2, 3, 4] (mCons (mLst (mNil)) (mCons (m2 dAdd (mC (.int 1)) (mCallH [.sl 0, .fz] MF_f_law_draw ((mV 0).bind fun _ => mCons (m2 dAdd (mC (.int 1)) (mA dMaxL (mCons (m2 dAdd (mLst (mCons (mC (.int 0)) (mNil))) (c_f_law_sat_1)) mNil))) (mNil)))) (mCons (mCallH [.sl 0, .fz] MF_f_law_draw ((mV 0).bind fun _ => mCons (mC (.int 4)) (mNil))) (mNil))))).sq ((l_f_law_sat_1).sq (mRet (mA dTupOf (mCons (mV 2) mNil))))
noncomputable def MF_f_law_sat : MFn := mFn 8 [.io, .fz] false m_f_law_sat
theorem s_f_law_sat : FnScope (["_law_hand_here", "_law_highs", "_law_found", "_law_step", "_law_thin", "_law_high", "_law_some", "_law_pick"] : List PySem.Str) (["_law_hand_here", "_law_highs"] : List PySem.Str) (d_f_law_sat).scope := ⟨rfl, rfl, rfl, by decide +kernel, rfl, by decide +kernel, by decide +kernel⟩
theorem w_f_law_sat {P : Program} {w : World} {K : Frag} {mg : PySem.Str → Option Value} {h : Heap} (y : Hy K mg h) : ∃ fd, FunD K (d_f_law_sat).name (d_f_law_sat).qual (d_f_law_sat).params (d_f_law_sat).body (d_f_law_sat).scope ((d_f_law_sat).dvs K) ((d_f_law_sat).kws K) (He.fAd K ("_law_sat", none)) fd ∧ BnF K fd (["_law_hand_here", "_law_highs"] : List PySem.Str) ∧ PySem.W.keepIn K (.ref (He.fAd K ("_law_sat", none))) = true ∧ mg "_law_sat" = some (.ref (He.fAd K ("_law_sat", none))) ∧ ∀ base : Heap, FnG P w K mg base (L2.CX P w) 2 (He.fAd K ("_law_sat", none)) fd (["_law_hand_here", "_law_highs"] : List PySem.Str) (SpG K (ct K) [.io, .fz] false MF_f_law_sat) := by
  obtain ⟨fd_f_law_draw, f_law_draw_d, f_law_draw_b, f_law_draw_k, f_law_draw_m, f_law_draw_r⟩ := w_f_law_draw (P := P) (w := w) y
  obtain ⟨fd, D⟩ := y.says.def_ 10
  refine ⟨fd, D, (bnF (D.bindsN fun _ _ _ _ _ _ us hl => match us, hl with | [_, _], _ => rfl)), D.kp, y.glo 26, fun base => fn_g (N := (["_law_hand_here", "_law_highs", "_law_found", "_law_step", "_law_thin", "_law_high", "_law_some", "_law_pick"] : List PySem.Str)) (ps := (["_law_hand_here", "_law_highs"] : List PySem.Str)) (ks := [.io, .fz]) (Γl := [.ow, .fz, .fz, .fz, .fz, .fz]) (Γ' := [.io, .fz, .ow, .fz, .fz, .fz, .fz, .fz]) (ro := false) (b := m_f_law_sat) D s_f_law_sat fun X S cdv A outer s H E hX hK hc hge hro tk gd room po => ?_⟩
  obtain ⟨⟨SK, Sct, F0, H0, ios⟩, Sge, SW, gc, gb, Sro⟩ := S
  have hK1 : SK = K := hK; have hc1 : Sct = ct K := hc; clear hK hc; subst hc1; subst hK1; cases hge; cases hro; subst hX
  have hu := room.units
  have nd : (["_law_hand_here", "_law_highs", "_law_found", "_law_step", "_law_thin", "_law_high", "_law_some", "_law_pick"] : List PySem.Str).Nodup := by decide +kernel
  exact ss_cons (Γ1 := [.io, .fz, .ow, .fz, .fz, .fz, .fz, .fz]) (s_par3 (i := 2) (j := 3) (k := 4) (ba := true) (bb := false) (bc := false) rfl nd (v_ow (o_lst (a_nil)) (v_fz (e_add (e_int) (e_r (e_h (sh := [.sl 0, .fz]) (ks := [.io, .fz]) (MF := MF_f_law_draw) ⟨(f_law_draw_r base).mono (k := 1) (by decide), gd, room⟩ f_law_draw_m f_law_draw_k f_law_draw_b tk (.inl rfl) (h_sl (pv 0) (h_fz (e_add (e_int) (e_r (e_cb (b_maxL rfl rfl) (a_oneR (e_r (e_add (e_lst (a_cons (e_int) (a_nil))) (e_r (e_o (o_lc (own := [("_law_high", 5)]) (is := [5]) rfl nd (i_any (e_v (pv 1))) rfl (fun _ _ _ _ _ => g_name (i := 5) nd rfl (by first | exact Or.inl rfl | exact Or.inr rfl) (by first | exact Or.inr rfl | exact Or.inl rfl) ⟨_, rfl, by decide⟩) (fun _ _ _ _ _ => ts_nil) (fun _ _ _ _ _ => e_fd (e_v (pv 5)) (e_r (e_int))))))))) (y.free 24)))) (h_nil)))))) (v_fz (e_h (sh := [.sl 0, .fz]) (ks := [.io, .fz]) (MF := MF_f_law_draw) ⟨(f_law_draw_r base).mono (k := 1) (by decide), gd, room⟩ f_law_draw_m f_law_draw_k f_law_draw_b tk (.inl rfl) (h_sl (pv 0) (h_fz (e_int) (h_nil)))) (v_nil)))) rfl rfl rfl (by decide) (by decide) (by decide) rfl rfl rfl) (ss_cons (Γ1 := [.io, .fz, .ow, .fz, .fz, .fz, .fz, .fz]) (s_for (Γ1 := [.io, .fz, .ow, .fz, .fz, .fz, .fz, .fz]) (is := [5]) po rfl (i_any (e_v (pv 1))) (g_name (i := 5) nd rfl (by first | exact Or.inl rfl | exact Or.inr rfl) (by first | exact Or.inr rfl | exact Or.inl rfl) ⟨_, rfl, by decide⟩) (ss_cons (Γ1 := [.io, .fz, .ow, .fz, .fz, .fz, .fz, .fz]) (s_set (i := 6) (e_lst (a_cons (e_v (pv 5)) (a_cons (e_mul (e_v (pv 3)) (e_r (e_h (sh := [.sl 0, .fz]) (ks := [.io, .fz]) (MF := MF_f_law_draw) ⟨(f_law_draw_r base).mono (k := 1) (by decide), gd, room⟩ f_law_draw_m f_law_draw_k f_law_draw_b tk (.inl rfl) (h_sl (pv 0) (h_fz (e_add (e_fd (e_v (pv 5)) (e_r (e_v (pv 3)))) (e_r (e_int))) (h_nil)))))) (a_cons (e_h (sh := [.sl 0, .fz]) (ks := [.io, .fz]) (MF := MF_f_law_draw) ⟨(f_law_draw_r base).mono (k := 1) (by decide), gd, room⟩ f_law_draw_m f_law_draw_k f_law_draw_b tk (.inl rfl) (h_sl (pv 0) (h_fz (e_add (e_v (pv 5)) (e_r (e_int))) (h_nil)))) (a_cons (e_cb (b_min2 rfl) (a_consR (e_v (pv 5)) (a_oneR (e_r (e_v (pv 3))))) (y.free 25)) (a_nil)))))) nd rfl (by first | exact Or.inl rfl | exact Or.inr rfl) (by first | exact Or.inr rfl | exact Or.inl rfl) ⟨_, rfl, by decide⟩) (ss_cons (Γ1 := [.io, .fz, .ow, .fz, .fz, .fz, .fz, .fz]) (s_set (i := 7) (e_ix (e_v (pv 6)) (e_h (sh := [.sl 0, .fz]) (ks := [.io, .fz]) (MF := MF_f_law_draw) ⟨(f_law_draw_r base).mono (k := 1) (by decide), gd, room⟩ f_law_draw_m f_law_draw_k f_law_draw_b tk (.inl rfl) (h_sl (pv 0) (h_fz (e_int) (h_nil))))) nd rfl (by first | exact Or.inl rfl | exact Or.inr rfl) (by first | exact Or.inr rfl | exact Or.inl rfl) ⟨_, rfl, by decide⟩) (ss_one (s_exp (e_mt F.slot_list_append F.type_list_append mt_append mk_append (pv 2) (a_cons (e_if (t_cmp (c_ge hu rfl) (e_h (sh := [.sl 0, .fz]) (ks := [.io, .fz]) (MF := MF_f_law_draw) ⟨(f_law_draw_r base).mono (k := 1) (by decide), gd, room⟩ f_law_draw_m f_law_draw_k f_law_draw_b tk (.inl rfl) (h_sl (pv 0) (h_fz (e_int) (h_nil)))) (e_r (e_v (pv 4)))) (e_v (pv 7)) (e_int)) (a_nil)) rfl (by decide) rfl)))))) (ss_one (s_ret (e_ct (b_tuple rfl) (a_oneR (r_v (pv 2))) (y.free 0)))))
end Law
namespace Law
open PySem PySem.Spec PyProof.Rows L2 G
/-! ### _law_near_sats -/
noncomputable def c_f_law_near_sats_1 : M D := mLc [6] (mIt (mV 5)) (gN 6) (mYes) (m2 dAdd (m2 dAdd (mSl (mV 1) (M.ret none) (mPt (mV 3))) (mTup (mCons (mV 6) (mNil)))) (mSl (mV 1) (mPt (m2 dAdd (mV 3) (mC (.int 1)))) (M.ret none)))
noncomputable def b_f_law_near_sats_1 : MS := (mSet 5 (mLst (mCons (m1 dNeg (mC (.int 1))) (mCons (m2 dAdd (mV 4) (mC (.int 1))) (mCons (mV 4) (mCons (mC (.int 0)) (mCons (mC (.bl true)) (mCons (mC (.bl false)) (mCons (mC .non) (mCons (mC (.str "0")) (mCons (mC (.str "")) (mCons (mLst (mCons (mC (.int 0)) (mNil))) (mCons (mTup (mCons (mC (.int 0)) (mNil))) (mCons (mDk) (mCons (mTup (mCons (mLst (mNil)) (mNil))) (mCons (m2 dPw (mC (.int 10)) (mC (.int 30))) (mCons (m2 dEq (m2 dIx (mV 1) (mV 3)) (mC (.int 1))) (mNil)))))))))))))))))).sq (mExp (mMl 2 hExtend (mCons (c_f_law_near_sats_1) (mNil))))
noncomputable def l_f_law_near_sats_1 : MS := mFor (mEn (mCons (mV 0) (mNil))) (gT 2 (gC (gN 3) (gC (gN 4) (gE)))) b_f_law_near_sats_1
noncomputable def m_f_law_near_sats : MS := (mSet 2 (mLst (mCons (mV 1) (mCons (m1 dRv (mV 1)) (mCons (mA dListOf (mCons (mV 1) mNil)) (mCons (m2 dAdd (mV 1) (mTup (mCons (mC (.int 0)) (mNil)))) (mCons (mSl (mV 1) (mPt (mC (.int 1))) (M.ret none)) (mCons (mSl (mV 1) (M.ret none) (mPt (m1 dNeg (mC (.int 1))))) (mCons (m2 dAdd (mV 1) (mV 1)) (mCons (mTup (mCons (mV 1) (mNil))) (mCons (mV 0) (mNil)))))))))))).sq ((l_f_law_near_sats_1).sq (mRet (mV 2)))
noncomputable def MF_f_law_near_sats : MFn := mFn 7 [.fz, .fz] false m_f_law_near_sats
theorem s_f_law_near_sats : FnScope (["_law_highs", "_law_sat_here", "_law_found", "_law_spot", "_law_high", "_law_some", "_law_odd"] : List PySem.Str) (["_law_highs", "_law_sat_here"] : List PySem.Str) (d_f_law_near_sats).scope := ⟨rfl, rfl, rfl, by decide +kernel, rfl, by decide +kernel, by decide +kernel⟩
theorem w_f_law_near_sats {P : Program} {w : World} {K : Frag} {mg : PySem.Str → Option Value} {h : Heap} (y : Hy K mg h) : ∃ fd, FunD K (d_f_law_near_sats).name (d_f_law_near_sats).qual (d_f_law_near_sats).params (d_f_law_near_sats).body (d_f_law_near_sats).scope ((d_f_law_near_sats).dvs K) ((d_f_law_near_sats).kws K) (He.fAd K ("_law_near_sats", none)) fd ∧ BnF K fd (["_law_highs", "_law_sat_here"] : List PySem.Str) ∧ PySem.W.keepIn K (.ref (He.fAd K ("_law_near_sats", none))) = true ∧ mg "_law_near_sats" = some (.ref (He.fAd K ("_law_near_sats", none))) ∧ ∀ base : Heap, FnG P w K mg base (L2.CX P w) 1 (He.fAd K ("_law_near_sats", none)) fd (["_law_highs", "_law_sat_here"] : List PySem.Str) (SpG K (ct K) [.fz, .fz] false MF_f_law_near_sats) := by
  obtain ⟨fd, D⟩ := y.says.def_ 11
  refine ⟨fd, D, (bnF (D.bindsN fun _ _ _ _ _ _ us hl => match us, hl with | [_, _], _ => rfl)), D.kp, y.glo 28, fun base => fn_g (N := (["_law_highs", "_law_sat_here", "_law_found", "_law_spot", "_law_high", "_law_some", "_law_odd"] : List PySem.Str)) (ps := (["_law_highs", "_law_sat_here"] : List PySem.Str)) (ks := [.fz, .fz]) (Γl := [.ow, .fz, .fz, .fz, .fz]) (Γ' := [.fz, .fz, .fz, .fz, .fz, .fz, .fz]) (ro := false) (b := m_f_law_near_sats) D s_f_law_near_sats fun X S cdv A outer s H E hX hK hc hge hro tk gd room po => ?_⟩
  obtain ⟨⟨SK, Sct, F0, H0, ios⟩, Sge, SW, gc, gb, Sro⟩ := S
  have hK1 : SK = K := hK; have hc1 : Sct = ct K := hc; clear hK hc; subst hc1; subst hK1; cases hge; cases hro; subst hX
  have hu := room.units
  have nd : (["_law_highs", "_law_sat_here", "_law_found", "_law_spot", "_law_high", "_law_some", "_law_odd"] : List PySem.Str).Nodup := by decide +kernel
  exact ss_cons (Γ1 := [.fz, .fz, .ow, .fz, .fz, .fz, .fz]) (s_setO (i := 2) (o_lst (a_cons (e_v (pv 1)) (a_cons (e_rv (e_r (e_v (pv 1))) rfl) (a_cons (e_o (o_list (a_oneR (e_r (e_v (pv 1)))) rfl (y.free 27))) (a_cons (e_add (e_v (pv 1)) (e_r (e_tup (a_cons (e_int) (a_nil))))) (a_cons (e_sl (e_v (pv 1)) (p_some (e_int)) (p_none)) (a_cons (e_sl (e_v (pv 1)) (p_none) (p_some (e_neg (e_int)))) (a_cons (e_add (e_v (pv 1)) (e_r (e_v (pv 1)))) (a_cons (e_tup (a_cons (e_v (pv 1)) (a_nil))) (a_cons (e_v (pv 0)) (a_nil))))))))))) nd rfl (by first | exact Or.inl rfl | exact Or.inr rfl) (by first | exact Or.inr rfl | exact Or.inl rfl) ⟨_, rfl, by decide⟩) (ss_cons (Γ1 := [.fz, .fz, .ow, .fz, .fz, .fz, .fz]) (s_for (Γ1 := [.fz, .fz, .ow, .fz, .fz, .fz, .fz]) (is := [3, 4]) po rfl (i_en (a_cons (e_v (pv 0)) (a_nil)) (y.free 14)) (g_tup rfl (g_cons (g_name (i := 3) nd rfl (by first | exact Or.inl rfl | exact Or.inr rfl) (by first | exact Or.inr rfl | exact Or.inl rfl) ⟨_, rfl, by decide⟩) (g_cons (g_name (i := 4) nd rfl (by first | exact Or.inl rfl | exact Or.inr rfl) (by first | exact Or.inr rfl | exact Or.inl rfl) ⟨_, rfl, by decide⟩) (g_nil)))) (ss_cons (Γ1 := [.fz, .fz, .ow, .fz, .fz, .fz, .fz]) (s_set (i := 5) (e_lst (a_cons (e_neg (e_int)) (a_cons (e_add (e_v (pv 4)) (e_r (e_int))) (a_cons (e_v (pv 4)) (a_cons (e_int) (a_cons (e_bl) (a_cons (e_bl) (a_cons (e_non) (a_cons (e_str) (a_cons (e_str) (a_cons (e_lst (a_cons (e_int) (a_nil))) (a_cons (e_tup (a_cons (e_int) (a_nil))) (a_cons (e_dk) (a_cons (e_tup (a_cons (e_lst (a_nil)) (a_nil))) (a_cons (e_pw (e_int) (e_r (e_int))) (a_cons (e_cmp (c_eq hu rfl) (e_ix (e_v (pv 1)) (e_v (pv 3))) (e_r (e_int))) (a_nil))))))))))))))))) nd rfl (by first | exact Or.inl rfl | exact Or.inr rfl) (by first | exact Or.inr rfl | exact Or.inl rfl) ⟨_, rfl, by decide⟩) (ss_one (s_exp (e_mt F.slot_list_extend F.type_list_extend mt_extend mk_extend (pv 2) (a_cons (e_o (o_lc (own := [("_law_odd", 6)]) (is := [6]) rfl nd (i_any (e_v (pv 5))) rfl (fun _ _ _ _ _ => g_name (i := 6) nd rfl (by first | exact Or.inl rfl | exact Or.inr rfl) (by first | exact Or.inr rfl | exact Or.inl rfl) ⟨_, rfl, by decide⟩) (fun _ _ _ _ _ => ts_nil) (fun _ _ _ _ _ => e_add (e_add (e_sl (e_v (pv 1)) (p_none) (p_some (e_v (pv 3)))) (e_r (e_tup (a_cons (e_v (pv 6)) (a_nil))))) (e_r (e_sl (e_v (pv 1)) (p_some (e_add (e_v (pv 3)) (e_r (e_int)))) (p_none)))))) (a_nil)) rfl (by decide) rfl))))) (ss_frz (Γ2 := [.fz, .fz, .fz, .fz, .fz, .fz, .fz]) [2] (ss_one (s_ret (e_v (pv 2))))))
end Law
namespace Law
open PySem PySem.Spec PyProof.Rows L2 G
/-! ### checked_moor -/
noncomputable def m_f_checked_moor : MS := (mIfS (mNot (mT (m1 (dIo 0) (mV 0)))) (mRs ⟨1, []⟩) (mNx)).sq (mRet (mV 0))
noncomputable def MF_f_checked_moor : MFn := mFn 1 [.fz] false m_f_checked_moor
theorem s_f_checked_moor : FnScope (["thing"] : List PySem.Str) (["thing"] : List PySem.Str) (d_f_checked_moor).scope := ⟨rfl, rfl, rfl, by decide +kernel, rfl, by decide +kernel, by decide +kernel⟩
theorem w_f_checked_moor {P : Program} {w : World} {K : Frag} {mg : PySem.Str → Option Value} {h : Heap} (y : Hy K mg h) : ∃ fd, FunD K (d_f_checked_moor).name (d_f_checked_moor).qual (d_f_checked_moor).params (d_f_checked_moor).body (d_f_checked_moor).scope ((d_f_checked_moor).dvs K) ((d_f_checked_moor).kws K) (He.fAd K ("checked_moor", none)) fd ∧ BnF K fd (["thing"] : List PySem.Str) ∧ PySem.W.keepIn K (.ref (He.fAd K ("checked_moor", none))) = true ∧ mg "checked_moor" = some (.ref (He.fAd K ("checked_moor", none))) ∧ ∀ base : Heap, FnG P w K mg base (L2.CX P w) 1 (He.fAd K ("checked_moor", none)) fd (["thing"] : List PySem.Str) (SpG K (ct K) [.fz] false MF_f_checked_moor) := by
  obtain ⟨fd, D⟩ := y.says.def_ 12
  refine ⟨fd, D, (bnF (D.bindsN fun _ _ _ _ _ _ us hl => match us, hl with | [_], _ => rfl)), D.kp, y.glo 32, fun base => fn_g (N := (["thing"] : List PySem.Str)) (ps := (["thing"] : List PySem.Str)) (ks := [.fz]) (Γl := []) (Γ' := [.fz]) (ro := false) (b := m_f_checked_moor) D s_f_checked_moor fun X S cdv A outer s H E hX hK hc hge hro tk gd room po => ?_⟩
  obtain ⟨⟨SK, Sct, F0, H0, ios⟩, Sge, SW, gc, gb, Sro⟩ := S
  have hK1 : SK = K := hK; have hc1 : Sct = ct K := hc; clear hK hc; subst hc1; subst hK1; cases hge; cases hro; subst hX
  have hu := room.units
  have nd : (["thing"] : List PySem.Str).Nodup := by decide +kernel
  exact ss_cons (Γ1 := [.fz]) (s_if (t_not (t_tru (e_r (e_io (c := 0) (e_r (e_v (pv 0))) rfl (clsF_Moor y) (notB_Moor y) (y.free 4) (y.glo 29))) rfl)) (ss_one (s_raise (c := 1) rfl tk (.inl rfl) PySem.F.excBase_ValueError (y.exc 30).1 (y.glo 31) (y.exc 30).2.1 (y.raises 30) rfl)) (ss_nil)) (ss_one (s_ret (e_v (pv 0))))
end Law
namespace Law
open PySem PySem.Spec PyProof.Rows L2 G
/-! ### is_stand -/
noncomputable def c_f_is_stand_1 : M D := mLc [2, 3, 4] (mZp (mCons (mV 1) (mCons (m1 (dAt 0 0) (mV 0)) (mNil)))) (gT 2 (gC (gN 2) (gC (gT 2 (gC (gN 3) (gC (gN 4) (gE)))) (gE)))) (mYes) (mCkd 2 0 2 (fun ds _ => ds) MF_f_is_number (mCons (mV 2) (mCons (mV 4) (mNil))) (mNil))
noncomputable def m_f_is_stand : MS := (mExp (mCkd 1 0 1 (fun ds _ => ds) MF_f_checked_moor (mCons (mV 0) (mNil)) (mNil))).sq ((mIfS (mOr (mNot (mT (m1 (dIs .tuple) (mV 1)))) (mB (m2 dNe (mA dLen (mCons (mV 1) mNil)) (mA dLen (mCons (m1 (dAt 0 0) (mV 0)) mNil))))) (mRet (mC (.bl false))) (mNx)).sq (mRet (mA dAll (mCons (c_f_is_stand_1) mNil))))
noncomputable def MF_f_is_stand : MFn := mFn 5 [.fz, .fz] false m_f_is_stand
theorem s_f_is_stand : FnScope (["moor", "thing", "number", "name", "top"] : List PySem.Str) (["moor", "thing"] : List PySem.Str) (d_f_is_stand).scope := ⟨rfl, rfl, rfl, by decide +kernel, rfl, by decide +kernel, by decide +kernel⟩
theorem w_f_is_stand {P : Program} {w : World} {K : Frag} {mg : PySem.Str → Option Value} {h : Heap} (y : Hy K mg h) : ∃ fd, FunD K (d_f_is_stand).name (d_f_is_stand).qual (d_f_is_stand).params (d_f_is_stand).body (d_f_is_stand).scope ((d_f_is_stand).dvs K) ((d_f_is_stand).kws K) (He.fAd K ("is_stand", none)) fd ∧ BnF K fd (["moor", "thing"] : List PySem.Str) ∧ PySem.W.keepIn K (.ref (He.fAd K ("is_stand", none))) = true ∧ mg "is_stand" = some (.ref (He.fAd K ("is_stand", none))) ∧ ∀ base : Heap, FnG P w K mg base (L2.CX P w) 3 (He.fAd K ("is_stand", none)) fd (["moor", "thing"] : List PySem.Str) (SpG K (ct K) [.fz, .fz] false MF_f_is_stand) := by
  obtain ⟨fd_f_checked_moor, f_checked_moor_d, f_checked_moor_b, f_checked_moor_k, f_checked_moor_m, f_checked_moor_r⟩ := w_f_checked_moor (P := P) (w := w) y
  obtain ⟨fd_f_is_number, f_is_number_d, f_is_number_b, f_is_number_k, f_is_number_m, f_is_number_r⟩ := w_f_is_number (P := P) (w := w) y
  obtain ⟨fd, D⟩ := y.says.def_ 13
  refine ⟨fd, D, (bnF (D.bindsN fun _ _ _ _ _ _ us hl => match us, hl with | [_, _], _ => rfl)), D.kp, y.glo 33, fun base => fn_g (N := (["moor", "thing", "number", "name", "top"] : List PySem.Str)) (ps := (["moor", "thing"] : List PySem.Str)) (ks := [.fz, .fz]) (Γl := [.fz, .fz, .fz]) (Γ' := [.fz, .fz, .fz, .fz, .fz]) (ro := false) (b := m_f_is_stand) D s_f_is_stand fun X S cdv A outer s H E hX hK hc hge hro tk gd room po => ?_⟩
  obtain ⟨⟨SK, Sct, F0, H0, ios⟩, Sge, SW, gc, gb, Sro⟩ := S
  have hK1 : SK = K := hK; have hc1 : Sct = ct K := hc; clear hK hc; subst hc1; subst hK1; cases hge; cases hro; subst hX
  have hu := room.units
  have nd : (["moor", "thing", "number", "name", "top"] : List PySem.Str).Nodup := by decide +kernel
  exact ss_cons (Γ1 := [.fz, .fz, .fz, .fz, .fz]) (s_exp (e_g (ks := [.fz]) (MF := MF_f_checked_moor) ⟨(f_checked_moor_r base).mono (k := 2) (by decide), gd, room⟩ f_checked_moor_m f_checked_moor_k f_checked_moor_b.d tk (.inl rfl) (a_cons (e_v (pv 0)) (a_nil)) rfl)) (ss_cons (Γ1 := [.fz, .fz, .fz, .fz, .fz]) (s_if (t_w (w_or (t_not (t_tru (e_r (e_is (T := .tuple) (e_r (e_v (pv 1))) rfl (y.free 4) (y.free 0))) rfl)) (w_or1 (t_cmp (c_ne hu rfl) (e_cb (b_len rfl) (a_oneR (e_r (e_v (pv 1)))) (y.free 3)) (e_r (e_cb (b_len rfl) (a_oneR (e_r (e_at (c := 0) (i := 0) (e_r (e_v (pv 0))) rfl (y.cls_ 19) (y.noat 20) rfl ndc_0))) (y.free 3))))))) (ss_one (s_ret (e_bl))) (ss_nil)) (ss_one (s_ret (e_cb (b_all rfl rfl) (a_oneR (e_r (e_o (o_lc (own := [("number", 2), ("name", 3), ("top", 4)]) (is := [2, 3, 4]) rfl nd (i_zp (a_cons (e_v (pv 1)) (a_cons (e_at (c := 0) (i := 0) (e_r (e_v (pv 0))) rfl (y.cls_ 19) (y.noat 20) rfl ndc_0) (a_nil))) (y.free 1)) rfl (fun _ _ _ _ _ => g_tup rfl (g_cons (g_name (i := 2) nd rfl (by first | exact Or.inl rfl | exact Or.inr rfl) (by first | exact Or.inr rfl | exact Or.inl rfl) ⟨_, rfl, by decide⟩) (g_cons (g_tup rfl (g_cons (g_name (i := 3) nd rfl (by first | exact Or.inl rfl | exact Or.inr rfl) (by first | exact Or.inr rfl | exact Or.inl rfl) ⟨_, rfl, by decide⟩) (g_cons (g_name (i := 4) nd rfl (by first | exact Or.inl rfl | exact Or.inr rfl) (by first | exact Or.inr rfl | exact Or.inl rfl) ⟨_, rfl, by decide⟩) (g_nil)))) (g_nil)))) (fun _ _ _ _ _ => ts_nil) (fun _ _ _ _ _ => e_g (ks := [.fz, .fz]) (MF := MF_f_is_number) ⟨(f_is_number_r base).mono (k := 2) (by decide), gd, room⟩ f_is_number_m f_is_number_k f_is_number_b.d tk_no (.inl rfl) (a_cons (e_v (pv 2)) (a_cons (e_v (pv 4)) (a_nil))) rfl))))) (y.free 6)))))
end Law
namespace Law
open PySem PySem.Spec PyProof.Rows L2 G
/-! ### _law_no_moor -/
noncomputable def l_f_law_no_moor_1 : MS := mTry caught_NoMoor (mExp (mCkd 2 0 2 (fun ds _ => ds) MF_f_is_stand (mCons (mV 0) (mCons (mV 1) (mNil))) (mNil))) (mRet (mC (.bl true)))
noncomputable def m_f_law_no_moor : MS := (l_f_law_no_moor_1).sq (mRet (mC (.bl false)))
noncomputable def MF_f_law_no_moor : MFn := mFn 2 [.fz, .fz] false m_f_law_no_moor
theorem s_f_law_no_moor : FnScope (["_law_odd", "_law_sat_here"] : List PySem.Str) (["_law_odd", "_law_sat_here"] : List PySem.Str) (d_f_law_no_moor).scope := ⟨rfl, rfl, rfl, by decide +kernel, rfl, by decide +kernel, by decide +kernel⟩
theorem w_f_law_no_moor {P : Program} {w : World} {K : Frag} {mg : PySem.Str → Option Value} {h : Heap} (y : Hy K mg h) : ∃ fd, FunD K (d_f_law_no_moor).name (d_f_law_no_moor).qual (d_f_law_no_moor).params (d_f_law_no_moor).body (d_f_law_no_moor).scope ((d_f_law_no_moor).dvs K) ((d_f_law_no_moor).kws K) (He.fAd K ("_law_no_moor", none)) fd ∧ BnF K fd (["_law_odd", "_law_sat_here"] : List PySem.Str) ∧ PySem.W.keepIn K (.ref (He.fAd K ("_law_no_moor", none))) = true ∧ mg "_law_no_moor" = some (.ref (He.fAd K ("_law_no_moor", none))) ∧ ∀ base : Heap, FnG P w K mg base (L2.CX P w) 4 (He.fAd K ("_law_no_moor", none)) fd (["_law_odd", "_law_sat_here"] : List PySem.Str) (SpG K (ct K) [.fz, .fz] false MF_f_law_no_moor) := by
  obtain ⟨fd_f_is_stand, f_is_stand_d, f_is_stand_b, f_is_stand_k, f_is_stand_m, f_is_stand_r⟩ := w_f_is_stand (P := P) (w := w) y
  obtain ⟨fd, D⟩ := y.says.def_ 14
  refine ⟨fd, D, (bnF (D.bindsN fun _ _ _ _ _ _ us hl => match us, hl with | [_, _], _ => rfl)), D.kp, y.glo 34, fun base => fn_g (N := (["_law_odd", "_law_sat_here"] : List PySem.Str)) (ps := (["_law_odd", "_law_sat_here"] : List PySem.Str)) (ks := [.fz, .fz]) (Γl := []) (Γ' := [.fz, .fz]) (ro := false) (b := m_f_law_no_moor) D s_f_law_no_moor fun X S cdv A outer s H E hX hK hc hge hro tk gd room po => ?_⟩
  obtain ⟨⟨SK, Sct, F0, H0, ios⟩, Sge, SW, gc, gb, Sro⟩ := S
  have hK1 : SK = K := hK; have hc1 : Sct = ct K := hc; clear hK hc; subst hc1; subst hK1; cases hge; cases hro; subst hX
  have hu := room.units
  have nd : (["_law_odd", "_law_sat_here"] : List PySem.Str).Nodup := by decide +kernel
  exact ss_cons (Γ1 := [.fz, .fz]) (s_try (Γe := [.fz, .fz]) (caught := caught_NoMoor) rfl rfl ⟨rfl, by decide, .inl (y.glo 31)⟩ tk (.inl rfl) rfl (ex_NoMoor y) (fun _ _ _ tk po => ss_one (s_exp (e_g (ks := [.fz, .fz]) (MF := MF_f_is_stand) ⟨(f_is_stand_r base).mono (k := 3) (by decide), gd, room⟩ f_is_stand_m f_is_stand_k f_is_stand_b.d tk (.inr ⟨[], _, rfl, rfl⟩) (a_cons (e_v (pv 0)) (a_cons (e_v (pv 1)) (a_nil))) rfl))) (fun _ _ _ => ss_one (s_ret (e_bl)))) (ss_one (s_ret (e_bl)))
end Law
namespace Law
open PySem PySem.Spec PyProof.Rows L2 G
/-! ### _law_is_sat -/
noncomputable def b_f_law_is_sat_1 : MS := mIfS (mOr (mNot (mT (m1 (dIs .int) (mV 2)))) (mOr (mT (m1 (dIs .bool) (mV 2))) (mNot (mB (mCh dLe dLe (mC (.int 0)) (mV 2) (mV 3)))))) (mRet (mC (.bl false))) (mNx)
noncomputable def l_f_law_is_sat_1 : MS := mFor (mZp (mCons (mV 1) (mCons (mV 0) (mNil)))) (gT 2 (gC (gN 2) (gC (gN 3) (gE)))) b_f_law_is_sat_1
noncomputable def m_f_law_is_sat : MS := (mIfS (mOr (mNot (mT (m1 (dIs .tuple) (mV 1)))) (mB (m2 dNe (mA dLen (mCons (mV 1) mNil)) (mA dLen (mCons (mV 0) mNil))))) (mRet (mC (.bl false))) (mNx)).sq ((l_f_law_is_sat_1).sq (mRet (mC (.bl true))))
noncomputable def MF_f_law_is_sat : MFn := mFn 4 [.fz, .fz] false m_f_law_is_sat
theorem s_f_law_is_sat : FnScope (["_law_highs", "_law_odd", "_law_much", "_law_high"] : List PySem.Str) (["_law_highs", "_law_odd"] : List PySem.Str) (d_f_law_is_sat).scope := ⟨rfl, rfl, rfl, by decide +kernel, rfl, by decide +kernel, by decide +kernel⟩
theorem w_f_law_is_sat {P : Program} {w : World} {K : Frag} {mg : PySem.Str → Option Value} {h : Heap} (y : Hy K mg h) : ∃ fd, FunD K (d_f_law_is_sat).name (d_f_law_is_sat).qual (d_f_law_is_sat).params (d_f_law_is_sat).body (d_f_law_is_sat).scope ((d_f_law_is_sat).dvs K) ((d_f_law_is_sat).kws K) (He.fAd K ("_law_is_sat", none)) fd ∧ BnF K fd (["_law_highs", "_law_odd"] : List PySem.Str) ∧ PySem.W.keepIn K (.ref (He.fAd K ("_law_is_sat", none))) = true ∧ mg "_law_is_sat" = some (.ref (He.fAd K ("_law_is_sat", none))) ∧ ∀ base : Heap, FnG P w K mg base (L2.CX P w) 1 (He.fAd K ("_law_is_sat", none)) fd (["_law_highs", "_law_odd"] : List PySem.Str) (SpG K (ct K) [.fz, .fz] false MF_f_law_is_sat) := by
  obtain ⟨fd, D⟩ := y.says.def_ 15
  refine ⟨fd, D, (bnF (D.bindsN fun _ _ _ _ _ _ us hl => match us, hl with | [_, _], _ => rfl)), D.kp, y.glo 35, fun base => fn_g (N := (["_law_highs", "_law_odd", "_law_much", "_law_high"] : List PySem.Str)) (ps := (["_law_highs", "_law_odd"] : List PySem.Str)) (ks := [.fz, .fz]) (Γl := [.fz, .fz]) (Γ' := [.fz, .fz, .fz, .fz]) (ro := false) (b := m_f_law_is_sat) D s_f_law_is_sat fun X S cdv A outer s H E hX hK hc hge hro tk gd room po => ?_⟩
  obtain ⟨⟨SK, Sct, F0, H0, ios⟩, Sge, SW, gc, gb, Sro⟩ := S
  have hK1 : SK = K := hK; have hc1 : Sct = ct K := hc; clear hK hc; subst hc1; subst hK1; cases hge; cases hro; subst hX
  have hu := room.units
  have nd : (["_law_highs", "_law_odd", "_law_much", "_law_high"] : List PySem.Str).Nodup := by decide +kernel
  exact ss_cons (Γ1 := [.fz, .fz, .fz, .fz]) (s_if (t_w (w_or (t_not (t_tru (e_r (e_is (T := .tuple) (e_r (e_v (pv 1))) rfl (y.free 4) (y.free 0))) rfl)) (w_or1 (t_cmp (c_ne hu rfl) (e_cb (b_len rfl) (a_oneR (e_r (e_v (pv 1)))) (y.free 3)) (e_r (e_cb (b_len rfl) (a_oneR (e_r (e_v (pv 0)))) (y.free 3))))))) (ss_one (s_ret (e_bl))) (ss_nil)) (ss_cons (Γ1 := [.fz, .fz, .fz, .fz]) (s_for (Γ1 := [.fz, .fz, .fz, .fz]) (is := [2, 3]) po rfl (i_zp (a_cons (e_v (pv 1)) (a_cons (e_v (pv 0)) (a_nil))) (y.free 1)) (g_tup rfl (g_cons (g_name (i := 2) nd rfl (by first | exact Or.inl rfl | exact Or.inr rfl) (by first | exact Or.inr rfl | exact Or.inl rfl) ⟨_, rfl, by decide⟩) (g_cons (g_name (i := 3) nd rfl (by first | exact Or.inl rfl | exact Or.inr rfl) (by first | exact Or.inr rfl | exact Or.inl rfl) ⟨_, rfl, by decide⟩) (g_nil)))) (ss_one (s_if (t_w (w_or (t_not (t_tru (e_r (e_is (T := .int) (e_r (e_v (pv 2))) rfl (y.free 4) (y.free 9))) rfl)) (w_or (t_tru (e_r (e_is (T := .bool) (e_r (e_v (pv 2))) rfl (y.free 4) (y.free 8))) rfl) (w_or1 (t_not (t_chain (c_le hu rfl) (c_le hu rfl) (e_int) (e_v (pv 2)) (e_r (e_v (pv 3))))))))) (ss_one (s_ret (e_bl))) (ss_nil)))) (ss_one (s_ret (e_bl))))
end Law
namespace Law
open PySem PySem.Spec PyProof.Rows L2 G
/-! ### _law_told_right -/
noncomputable def m_f_law_told_right : MS := (mPar [3, 4] (mCons (mA dRepr (mCons (mV 2) (mNil))) (mCons (mCkd 2 0 2 (fun ds _ => ds) MF_f_law_is_sat (mCons (mV 1) (mCons (mV 2) (mNil))) (mNil)) (mNil)))).sq ((mSet 5 (mLst (mCons (mCkd 2 0 2 (fun ds _ => ds) MF_f_is_stand (mCons (mV 0) (mCons (mV 2) (mNil))) (mNil)) (mCons (mCkd 0 2 2 gD_f_is_stand_b0_thing_moor MF_f_is_stand (mNil) (mCons (mV 2) (mCons (mV 0) (mNil)))) (mNil))))).sq (mRet (mAndV (m2 dEq (mA dRepr (mCons (mV 5) (mNil))) (mA dRepr (mCons (mLst (mCons (mV 4) (mCons (mV 4) (mNil)))) (mNil)))) (m2 dEq (mA dRepr (mCons (mV 2) (mNil))) (mV 3)))))
noncomputable def MF_f_law_told_right : MFn := mFn 6 [.fz, .fz, .fz] false m_f_law_told_right
theorem s_f_law_told_right : FnScope (["_law_wild", "_law_highs", "_law_odd", "_law_ahead", "_law_due", "_law_told"] : List PySem.Str) (["_law_wild", "_law_highs", "_law_odd"] : List PySem.Str) (d_f_law_told_right).scope := ⟨rfl, rfl, rfl, by decide +kernel, rfl, by decide +kernel, by decide +kernel⟩
theorem w_f_law_told_right {P : Program} {w : World} {K : Frag} {mg : PySem.Str → Option Value} {h : Heap} (y : Hy K mg h) : ∃ fd, FunD K (d_f_law_told_right).name (d_f_law_told_right).qual (d_f_law_told_right).params (d_f_law_told_right).body (d_f_law_told_right).scope ((d_f_law_told_right).dvs K) ((d_f_law_told_right).kws K) (He.fAd K ("_law_told_right", none)) fd ∧ BnF K fd (["_law_wild", "_law_highs", "_law_odd"] : List PySem.Str) ∧ PySem.W.keepIn K (.ref (He.fAd K ("_law_told_right", none))) = true ∧ mg "_law_told_right" = some (.ref (He.fAd K ("_law_told_right", none))) ∧ ∀ base : Heap, FnG P w K mg base (L2.CX P w) 4 (He.fAd K ("_law_told_right", none)) fd (["_law_wild", "_law_highs", "_law_odd"] : List PySem.Str) (SpG K (ct K) [.fz, .fz, .fz] false MF_f_law_told_right) := by
  obtain ⟨fd_f_law_is_sat, f_law_is_sat_d, f_law_is_sat_b, f_law_is_sat_k, f_law_is_sat_m, f_law_is_sat_r⟩ := w_f_law_is_sat (P := P) (w := w) y
  obtain ⟨fd_f_is_stand, f_is_stand_d, f_is_stand_b, f_is_stand_k, f_is_stand_m, f_is_stand_r⟩ := w_f_is_stand (P := P) (w := w) y
  have f_is_stand_b0_thing_moor := bn_f_is_stand_b0_thing_moor y f_is_stand_d
  obtain ⟨fd, D⟩ := y.says.def_ 16
  refine ⟨fd, D, (bnF (D.bindsN fun _ _ _ _ _ _ us hl => match us, hl with | [_, _, _], _ => rfl)), D.kp, y.glo 37, fun base => fn_g (N := (["_law_wild", "_law_highs", "_law_odd", "_law_ahead", "_law_due", "_law_told"] : List PySem.Str)) (ps := (["_law_wild", "_law_highs", "_law_odd"] : List PySem.Str)) (ks := [.fz, .fz, .fz]) (Γl := [.fz, .fz, .fz]) (Γ' := [.fz, .fz, .fz, .fz, .fz, .fz]) (ro := false) (b := m_f_law_told_right) D s_f_law_told_right fun X S cdv A outer s H E hX hK hc hge hro tk gd room po => ?_⟩
  obtain ⟨⟨SK, Sct, F0, H0, ios⟩, Sge, SW, gc, gb, Sro⟩ := S
  have hK1 : SK = K := hK; have hc1 : Sct = ct K := hc; clear hK hc; subst hc1; subst hK1; cases hge; cases hro; subst hX
  have hu := room.units
  have nd : (["_law_wild", "_law_highs", "_law_odd", "_law_ahead", "_law_due", "_law_told"] : List PySem.Str).Nodup := by decide +kernel
  exact ss_cons (Γ1 := [.fz, .fz, .fz, .fz, .fz, .fz]) (s_par2 (i := 3) (j := 4) (ba := false) (bb := false) rfl nd (v_fz (e_repr gd hu rfl (a_cons (e_v (pv 2)) (a_nil)) (y.free 36)) (v_fz (e_g (ks := [.fz, .fz]) (MF := MF_f_law_is_sat) ⟨(f_law_is_sat_r base).mono (k := 3) (by decide), gd, room⟩ f_law_is_sat_m f_law_is_sat_k f_law_is_sat_b.d tk (.inl rfl) (a_cons (e_v (pv 1)) (a_cons (e_v (pv 2)) (a_nil))) rfl) (v_nil))) rfl rfl (by decide) rfl rfl) (ss_cons (Γ1 := [.fz, .fz, .fz, .fz, .fz, .fz]) (s_set (i := 5) (e_lst (a_cons (e_g (ks := [.fz, .fz]) (MF := MF_f_is_stand) ⟨(f_is_stand_r base).mono (k := 3) (by decide), gd, room⟩ f_is_stand_m f_is_stand_k f_is_stand_b.d tk (.inl rfl) (a_cons (e_v (pv 0)) (a_cons (e_v (pv 2)) (a_nil))) rfl) (a_cons (e_gk0 (kn := ["thing", "moor"]) (gD := gD_f_is_stand_b0_thing_moor) (ks := [.fz, .fz]) (MF := MF_f_is_stand) ⟨(f_is_stand_r base).mono (k := 3) (by decide), gd, room⟩ f_is_stand_m f_is_stand_k f_is_stand_b0_thing_moor tk (.inl rfl) (k_cons (e_v (pv 2)) (k_cons (e_v (pv 0)) (k_nil))) rfl) (a_nil)))) nd rfl (by first | exact Or.inl rfl | exact Or.inr rfl) (by first | exact Or.inr rfl | exact Or.inl rfl) ⟨_, rfl, by decide⟩) (ss_one (s_ret (e_and (e_cmp (c_eq hu rfl) (e_repr gd hu rfl (a_cons (e_v (pv 5)) (a_nil)) (y.free 36)) (e_r (e_repr gd hu rfl (a_cons (e_lst (a_cons (e_v (pv 4)) (a_cons (e_v (pv 4)) (a_nil)))) (a_nil)) (y.free 36)))) (e_one (e_cmp (c_eq hu rfl) (e_repr gd hu rfl (a_cons (e_v (pv 2)) (a_nil)) (y.free 36)) (e_r (e_v (pv 3)))))))))
end Law
namespace Law
open PySem PySem.Spec PyProof.Rows L2 G
/-! ### Moor.__str__ -/
noncomputable def c_f_Moor_str_1 : M D := mLc [3, 4] (mIt (m1 (dAt 1 0) (mV 0))) (gT 2 (gC (gN 3) (gC (gN 4) (gE)))) (mYes) (mJn [mC (.str "rod "), m1 dFm (mV 3), mC (.str " "), m1 dFm (mV 4)])
noncomputable def c_f_Moor_str_2 : M D := mLc [1, 2] (mIt (m1 (dAt 0 0) (mV 0))) (gT 2 (gC (gN 1) (gC (gN 2) (gE)))) (mYes) (mJn [mC (.str "gauge "), m1 dFm (mV 1), mC (.str " "), m1 dFm (mV 2)])
noncomputable def m_f_Moor_str : MS := mRet (mJo (mC (.str "\n")) (m2 dAdd (c_f_Moor_str_2) (c_f_Moor_str_1)))
noncomputable def MF_f_Moor_str : MFn := mFn 5 [.fz] false m_f_Moor_str
theorem s_f_Moor_str : FnScope (["self", "name", "top", "one", "other"] : List PySem.Str) (["self"] : List PySem.Str) (d_f_Moor_str).scope := ⟨rfl, rfl, rfl, by decide +kernel, rfl, by decide +kernel, by decide +kernel⟩
theorem w_f_Moor_str {P : Program} {w : World} {K : Frag} {mg : PySem.Str → Option Value} {h : Heap} (y : Hy K mg h) : ∃ fd, FunD K (d_f_Moor_str).name (d_f_Moor_str).qual (d_f_Moor_str).params (d_f_Moor_str).body (d_f_Moor_str).scope ((d_f_Moor_str).dvs K) ((d_f_Moor_str).kws K) (He.fAd K ("Moor", some "__str__")) fd ∧ BnF K fd (["self"] : List PySem.Str) ∧ PySem.W.keepIn K (.ref (He.fAd K ("Moor", some "__str__"))) = true ∧ ∀ base : Heap, FnG P w K mg base (L2.CX P w) 1 (He.fAd K ("Moor", some "__str__")) fd (["self"] : List PySem.Str) (SpG K (ct K) [.fz] false MF_f_Moor_str) := by
  obtain ⟨fd, D⟩ := y.says.def_ 17
  refine ⟨fd, D, (bnF (D.bindsN fun _ _ _ _ _ _ us hl => match us, hl with | [_], _ => rfl)), D.kp, fun base => fn_g (N := (["self", "name", "top", "one", "other"] : List PySem.Str)) (ps := (["self"] : List PySem.Str)) (ks := [.fz]) (Γl := [.fz, .fz, .fz, .fz]) (Γ' := [.fz, .fz, .fz, .fz, .fz]) (ro := false) (b := m_f_Moor_str) D s_f_Moor_str fun X S cdv A outer s H E hX hK hc hge hro tk gd room po => ?_⟩
  obtain ⟨⟨SK, Sct, F0, H0, ios⟩, Sge, SW, gc, gb, Sro⟩ := S
  have hK1 : SK = K := hK; have hc1 : Sct = ct K := hc; clear hK hc; subst hc1; subst hK1; cases hge; cases hro; subst hX
  have hu := room.units
  have nd : (["self", "name", "top", "one", "other"] : List PySem.Str).Nodup := by decide +kernel
  exact ss_one (s_ret (e_join (e_str) (e_r (e_add (e_o (o_lc (own := [("name", 1), ("top", 2)]) (is := [1, 2]) rfl nd (i_any (e_at (c := 0) (i := 0) (e_r (e_v (pv 0))) rfl (y.cls_ 19) (y.noat 20) rfl ndc_0)) rfl (fun _ _ _ _ _ => g_tup rfl (g_cons (g_name (i := 1) nd rfl (by first | exact Or.inl rfl | exact Or.inr rfl) (by first | exact Or.inr rfl | exact Or.inl rfl) ⟨_, rfl, by decide⟩) (g_cons (g_name (i := 2) nd rfl (by first | exact Or.inl rfl | exact Or.inr rfl) (by first | exact Or.inr rfl | exact Or.inl rfl) ⟨_, rfl, by decide⟩) (g_nil)))) (fun _ _ _ _ _ => ts_nil) (fun _ _ _ _ _ => e_js (.cons (e_str) (.cons (e_fm (e_v (pv 1))) (.cons (e_str) (.cons (e_fm (e_v (pv 2))) (.nil)))))))) (e_r (e_o (o_lc (own := [("one", 3), ("other", 4)]) (is := [3, 4]) rfl nd (i_any (e_at (c := 0) (i := 1) (e_r (e_v (pv 0))) rfl (y.cls_ 19) (y.noat 21) rfl ndc_0)) rfl (fun _ _ _ _ _ => g_tup rfl (g_cons (g_name (i := 3) nd rfl (by first | exact Or.inl rfl | exact Or.inr rfl) (by first | exact Or.inr rfl | exact Or.inl rfl) ⟨_, rfl, by decide⟩) (g_cons (g_name (i := 4) nd rfl (by first | exact Or.inl rfl | exact Or.inr rfl) (by first | exact Or.inr rfl | exact Or.inl rfl) ⟨_, rfl, by decide⟩) (g_nil)))) (fun _ _ _ _ _ => ts_nil) (fun _ _ _ _ _ => e_js (.cons (e_str) (.cons (e_fm (e_v (pv 3))) (.cons (e_str) (.cons (e_fm (e_v (pv 4))) (.nil))))))))))) rfl))
end Law
namespace Law
open PySem PySem.Spec PyProof.Rows L2 G
/-! ### _law_one_right -/
noncomputable def c_f_law_one_right_1 : M D := mLc [11] (mIt (mV 10)) (gN 11) (mYes) (mCkd 3 0 3 (fun ds _ => ds) MF_f_law_told_right (mCons (mV 8) (mCons (mV 3) (mCons (mV 11) (mNil)))) (mNil))
noncomputable def c_f_law_one_right_2 : M D := mLc [11] (mIt (mLst (mCons (mC .non) (mCons (mC (.int 0)) (mCons (mC (.bl true)) (mCons (mC (.str "")) (mCons (mTup (mNil)) (mCons (mLst (mNil)) (mCons (mDk) (mCons (mStrO 0 MF_f_Moor_str (mV 8)) (mCons (mTup (mCons (mV 6) (mCons (mV 7) (mNil)))) (mNil)))))))))))) (gN 11) (mYes) (mCkd 2 0 2 (fun ds _ => ds) MF_f_law_no_moor (mCons (mV 11) (mCons (mV 9) (mNil))) (mNil))
noncomputable def m_f_law_one_right : MS := (mAsg (gT 4 (gC (gN 2) (gC (gN 3) (gC (gN 4) (gC (gN 5) (gE)))))) (mV 1)).sq ((mAsg (gT 2 (gC (gN 6) (gC (gN 7) (gE)))) (mCkd 3 0 3 (fun ds _ => ds) MF_f_law_handed (mCons (mV 2) (mCons (mV 3) (mCons (mV 5) (mNil)))) (mNil))).sq ((mPar [8, 9] (mCons (mMk 0 1 1 2 gD_f_Moor_init_b1_rods MF_f_Moor_init (mCons (mV 6) (mNil)) (mCons (mV 7) (mNil))) (mCons (mCallH [.sl 0, .fz] MF_f_law_sat ((mV 0).bind fun _ => mCons (mV 3) (mNil))) (mNil)))).sq ((mSet 10 (m2 dAdd (mCkd 2 0 2 (fun ds _ => ds) MF_f_law_near_sats (mCons (mV 3) (mCons (mV 9) (mNil))) (mNil)) (mLst (mCons (mC .non) (mCons (mC (.bl true)) (mCons (mC (.int 0)) (mCons (mC (.str "")) (mCons (mC (.str "0")) (mCons (mTup (mNil)) (mCons (mLst (mNil)) (mCons (mDk) (mCons (mTup (mCons (mLst (mNil)) (mNil))) (mCons (mTup (mCons (mTup (mNil)) (mNil))) (mCons (mV 6) (mCons (mV 2) (mNil)))))))))))))))).sq ((mIfS (mNot (mT (mA dAll (mCons (c_f_law_one_right_1) mNil)))) (mRet (mC (.bl false))) (mNx)).sq (mRet (mA dAll (mCons (c_f_law_one_right_2) mNil)))))))
noncomputable def MF_f_law_one_right : MFn := mFn 12 [.io, .fz] false m_f_law_one_right
theorem s_f_law_one_right : FnScope (["_law_hand_here", "_law_given", "_law_calls_here", "_law_highs", "_law_near_here", "_law_pairs_here", "_law_all_gauges", "_law_all_rods", "_law_wild", "_law_sat_here", "_law_some", "_law_odd"] : List PySem.Str) (["_law_hand_here", "_law_given"] : List PySem.Str) (d_f_law_one_right).scope := ⟨rfl, rfl, rfl, by decide +kernel, rfl, by decide +kernel, by decide +kernel⟩
theorem w_f_law_one_right {P : Program} {w : World} {K : Frag} {mg : PySem.Str → Option Value} {h : Heap} (y : Hy K mg h) : ∃ fd, FunD K (d_f_law_one_right).name (d_f_law_one_right).qual (d_f_law_one_right).params (d_f_law_one_right).body (d_f_law_one_right).scope ((d_f_law_one_right).dvs K) ((d_f_law_one_right).kws K) (He.fAd K ("_law_one_right", none)) fd ∧ BnF K fd (["_law_hand_here", "_law_given"] : List PySem.Str) ∧ PySem.W.keepIn K (.ref (He.fAd K ("_law_one_right", none))) = true ∧ mg "_law_one_right" = some (.ref (He.fAd K ("_law_one_right", none))) ∧ ∀ base : Heap, FnG P w K mg base (L2.CX P w) 7 (He.fAd K ("_law_one_right", none)) fd (["_law_hand_here", "_law_given"] : List PySem.Str) (SpG K (ct K) [.io, .fz] false MF_f_law_one_right) := by
  obtain ⟨fd_f_law_handed, f_law_handed_d, f_law_handed_b, f_law_handed_k, f_law_handed_m, f_law_handed_r⟩ := w_f_law_handed (P := P) (w := w) y
  obtain ⟨fd_f_law_sat, f_law_sat_d, f_law_sat_b, f_law_sat_k, f_law_sat_m, f_law_sat_r⟩ := w_f_law_sat (P := P) (w := w) y
  obtain ⟨fd_f_Moor_init, f_Moor_init_d, f_Moor_init_b, f_Moor_init_k, f_Moor_init_r⟩ := w_f_Moor_init (P := P) (w := w) y
  have f_Moor_init_b1_rods := bn_f_Moor_init_b1_rods y f_Moor_init_d
  obtain ⟨fd_f_law_near_sats, f_law_near_sats_d, f_law_near_sats_b, f_law_near_sats_k, f_law_near_sats_m, f_law_near_sats_r⟩ := w_f_law_near_sats (P := P) (w := w) y
  obtain ⟨fd_f_law_told_right, f_law_told_right_d, f_law_told_right_b, f_law_told_right_k, f_law_told_right_m, f_law_told_right_r⟩ := w_f_law_told_right (P := P) (w := w) y
  obtain ⟨fd_f_Moor_str, f_Moor_str_d, f_Moor_str_b, f_Moor_str_k, f_Moor_str_r⟩ := w_f_Moor_str (P := P) (w := w) y
  obtain ⟨fd_f_law_no_moor, f_law_no_moor_d, f_law_no_moor_b, f_law_no_moor_k, f_law_no_moor_m, f_law_no_moor_r⟩ := w_f_law_no_moor (P := P) (w := w) y
  obtain ⟨fd, D⟩ := y.says.def_ 18
  refine ⟨fd, D, (bnF (D.bindsN fun _ _ _ _ _ _ us hl => match us, hl with | [_, _], _ => rfl)), D.kp, y.glo 40, fun base => fn_g (N := (["_law_hand_here", "_law_given", "_law_calls_here", "_law_highs", "_law_near_here", "_law_pairs_here", "_law_all_gauges", "_law_all_rods", "_law_wild", "_law_sat_here", "_law_some", "_law_odd"] : List PySem.Str)) (ps := (["_law_hand_here", "_law_given"] : List PySem.Str)) (ks := [.io, .fz]) (Γl := [.fz, .fz, .fz, .fz, .fz, .fz, .fz, .fz, .fz, .fz]) (Γ' := [.io, .fz, .fz, .fz, .fz, .fz, .fz, .fz, .fz, .fz, .fz, .fz]) (ro := false) (b := m_f_law_one_right) D s_f_law_one_right fun X S cdv A outer s H E hX hK hc hge hro tk gd room po => ?_⟩
  obtain ⟨⟨SK, Sct, F0, H0, ios⟩, Sge, SW, gc, gb, Sro⟩ := S
  have hK1 : SK = K := hK; have hc1 : Sct = ct K := hc; clear hK hc; subst hc1; subst hK1; cases hge; cases hro; subst hX
  have hu := room.units
  have nd : (["_law_hand_here", "_law_given", "_law_calls_here", "_law_highs", "_law_near_here", "_law_pairs_here", "_law_all_gauges", "_law_all_rods", "_law_wild", "_law_sat_here", "_law_some", "_law_odd"] : List PySem.Str).Nodup := by decide +kernel
  exact ss_cons (Γ1 := [.io, .fz, .fz, .fz, .fz, .fz, .fz, .fz, .fz, .fz, .fz, .fz]) (s_asg (is := [2, 3, 4, 5]) (e_v (pv 1)) (g_tup rfl (g_cons (g_name (i := 2) nd rfl (by first | exact Or.inl rfl | exact Or.inr rfl) (by first | exact Or.inr rfl | exact Or.inl rfl) ⟨_, rfl, by decide⟩) (g_cons (g_name (i := 3) nd rfl (by first | exact Or.inl rfl | exact Or.inr rfl) (by first | exact Or.inr rfl | exact Or.inl rfl) ⟨_, rfl, by decide⟩) (g_cons (g_name (i := 4) nd rfl (by first | exact Or.inl rfl | exact Or.inr rfl) (by first | exact Or.inr rfl | exact Or.inl rfl) ⟨_, rfl, by decide⟩) (g_cons (g_name (i := 5) nd rfl (by first | exact Or.inl rfl | exact Or.inr rfl) (by first | exact Or.inr rfl | exact Or.inl rfl) ⟨_, rfl, by decide⟩) (g_nil))))))) (ss_cons (Γ1 := [.io, .fz, .fz, .fz, .fz, .fz, .fz, .fz, .fz, .fz, .fz, .fz]) (s_asg (is := [6, 7]) (e_g (ks := [.fz, .fz, .fz]) (MF := MF_f_law_handed) ⟨(f_law_handed_r base).mono (k := 6) (by decide), gd, room⟩ f_law_handed_m f_law_handed_k f_law_handed_b.d tk (.inl rfl) (a_cons (e_v (pv 2)) (a_cons (e_v (pv 3)) (a_cons (e_v (pv 5)) (a_nil)))) rfl) (g_tup rfl (g_cons (g_name (i := 6) nd rfl (by first | exact Or.inl rfl | exact Or.inr rfl) (by first | exact Or.inr rfl | exact Or.inl rfl) ⟨_, rfl, by decide⟩) (g_cons (g_name (i := 7) nd rfl (by first | exact Or.inl rfl | exact Or.inr rfl) (by first | exact Or.inr rfl | exact Or.inl rfl) ⟨_, rfl, by decide⟩) (g_nil))))) (ss_cons (Γ1 := [.io, .fz, .fz, .fz, .fz, .fz, .fz, .fz, .fz, .fz, .fz, .fz]) (s_parN (is := [8, 9]) (bs := [false, false]) rfl (v_fz (e_o (o_mkk (kn := ["rods"]) (c := 0) (ks := [.fz, .fz]) (MF := MF_f_Moor_init) ⟨y.mkr 38, (f_Moor_init_r base).mono (k := 5) (by decide), gd, room⟩ (y.glo 29) f_Moor_init_b1_rods tk (.inl rfl) (a_cons (e_v (pv 6)) (a_nil)) (k_cons (e_v (pv 7)) (k_nil)) rfl)) (v_fz (e_h (sh := [.sl 0, .fz]) (ks := [.io, .fz]) (MF := MF_f_law_sat) ⟨(f_law_sat_r base).mono (k := 6) (by decide), gd, room⟩ f_law_sat_m f_law_sat_k f_law_sat_b tk (.inl rfl) (h_sl (pv 0) (h_fz (e_v (pv 3)) (h_nil)))) (v_nil))) (gs_cons nd rfl (by first | exact Or.inl rfl | exact Or.inr rfl) (by first | exact Or.inr rfl | exact Or.inl rfl) (gs_cons nd rfl (by first | exact Or.inl rfl | exact Or.inr rfl) (by first | exact Or.inr rfl | exact Or.inl rfl) (gs_nil))) rfl) (ss_cons (Γ1 := [.io, .fz, .fz, .fz, .fz, .fz, .fz, .fz, .fz, .fz, .fz, .fz]) (s_set (i := 10) (e_add (e_g (ks := [.fz, .fz]) (MF := MF_f_law_near_sats) ⟨(f_law_near_sats_r base).mono (k := 6) (by decide), gd, room⟩ f_law_near_sats_m f_law_near_sats_k f_law_near_sats_b.d tk (.inl rfl) (a_cons (e_v (pv 3)) (a_cons (e_v (pv 9)) (a_nil))) rfl) (e_r (e_lst (a_cons (e_non) (a_cons (e_bl) (a_cons (e_int) (a_cons (e_str) (a_cons (e_str) (a_cons (e_tup (a_nil)) (a_cons (e_lst (a_nil)) (a_cons (e_dk) (a_cons (e_tup (a_cons (e_lst (a_nil)) (a_nil))) (a_cons (e_tup (a_cons (e_tup (a_nil)) (a_nil))) (a_cons (e_v (pv 6)) (a_cons (e_v (pv 2)) (a_nil)))))))))))))))) nd rfl (by first | exact Or.inl rfl | exact Or.inr rfl) (by first | exact Or.inr rfl | exact Or.inl rfl) ⟨_, rfl, by decide⟩) (ss_cons (Γ1 := [.io, .fz, .fz, .fz, .fz, .fz, .fz, .fz, .fz, .fz, .fz, .fz]) (s_if (t_not (t_tru (e_r (e_cb (b_all rfl rfl) (a_oneR (e_r (e_o (o_lc (own := [("_law_odd", 11)]) (is := [11]) rfl nd (i_any (e_v (pv 10))) rfl (fun _ _ _ _ _ => g_name (i := 11) nd rfl (by first | exact Or.inl rfl | exact Or.inr rfl) (by first | exact Or.inr rfl | exact Or.inl rfl) ⟨_, rfl, by decide⟩) (fun _ _ _ _ _ => ts_nil) (fun _ _ _ _ _ => e_g (ks := [.fz, .fz, .fz]) (MF := MF_f_law_told_right) ⟨(f_law_told_right_r base).mono (k := 6) (by decide), gd, room⟩ f_law_told_right_m f_law_told_right_k f_law_told_right_b.d tk_no (.inl rfl) (a_cons (e_v (pv 8)) (a_cons (e_v (pv 3)) (a_cons (e_v (pv 11)) (a_nil)))) rfl))))) (y.free 6))) rfl)) (ss_one (s_ret (e_bl))) (ss_nil)) (ss_one (s_ret (e_cb (b_all rfl rfl) (a_oneR (e_r (e_o (o_lc (own := [("_law_odd", 11)]) (is := [11]) rfl nd (i_any (e_lst (a_cons (e_non) (a_cons (e_int) (a_cons (e_bl) (a_cons (e_str) (a_cons (e_tup (a_nil)) (a_cons (e_lst (a_nil)) (a_cons (e_dk) (a_cons (e_strO (c := 0) ((f_Moor_str_r base).mono (k := 4) (by decide)) gd room f_Moor_str_b rfl (y.meth 39).at_ (y.meth 39).fn (e_v (pv 8)) (y.free 5) rfl) (a_cons (e_tup (a_cons (e_v (pv 6)) (a_cons (e_v (pv 7)) (a_nil)))) (a_nil)))))))))))) rfl (fun _ _ _ _ _ => g_name (i := 11) nd rfl (by first | exact Or.inl rfl | exact Or.inr rfl) (by first | exact Or.inr rfl | exact Or.inl rfl) ⟨_, rfl, by decide⟩) (fun _ _ _ _ _ => ts_nil) (fun _ _ _ _ _ => e_g (ks := [.fz, .fz]) (MF := MF_f_law_no_moor) ⟨(f_law_no_moor_r base).mono (k := 6) (by decide), gd, room⟩ f_law_no_moor_m f_law_no_moor_k f_law_no_moor_b.d tk_no (.inl rfl) (a_cons (e_v (pv 11)) (a_cons (e_v (pv 9)) (a_nil))) rfl))))) (y.free 6))))))))
end Law
namespace Law
open PySem PySem.Spec PyProof.Rows L2 G
/-! ### _law_pairs -/
noncomputable def b_f_law_pairs_1 : MS := mExp (mMl 3 hAppend (mCons (mMl 2 hPopAt (mCons (mCallH [.sl 0, .fz] MF_f_law_draw ((mV 0).bind fun _ => mCons (mA dLen (mCons (mV 2) mNil)) (mNil))) (mNil))) (mNil)))
noncomputable def l_f_law_pairs_1 : MS := mWh (mB (m2L dNe 2 (mLst (mNil)))) b_f_law_pairs_1
noncomputable def c_f_law_pairs_1 : M D := mLc [8] (mRg2 (mCons (m2 dAdd (mV 6) (mC (.int 1))) (mCons (mV 1) (mNil)))) (gN 8) (mYes) (mTup (mCons (mV 6) (mCons (mV 8) (mNil))))
noncomputable def b_f_law_pairs_2 : MS := mExp (mMl 4 hExtend (mCons (c_f_law_pairs_1) (mNil)))
noncomputable def l_f_law_pairs_2 : MS := mFor (mRg1 (mCons (mV 1) (mNil))) (gN 6) b_f_law_pairs_2
noncomputable def c_f_law_pairs_2 : M D := mLc [6] (mRg1 (mCons (m2 dSub (mV 1) (mC (.int 1))) (mNil))) (gN 6) (mYes) (mTup (mCons (mA dMin2 (mCons (m2L dIx 3 (mV 6)) (mCons (m2L dIx 3 (m2 dAdd (mV 6) (mC (.int 1)))) mNil))) (mCons (mA dMax2 (mCons (m2L dIx 3 (mV 6)) (mCons (m2L dIx 3 (m2 dAdd (mV 6) (mC (.int 1)))) mNil))) (mNil))))
noncomputable def c_f_law_pairs_3 : M D := mLc [9] (mIt (mSlL 3 (mPt (mC (.int 1))) (M.ret none))) (gN 9) (mYes) (mTup (mCons (mA dMin2 (mCons (m2L dIx 3 (mC (.int 0))) (mCons (mV 9) mNil))) (mCons (mA dMax2 (mCons (m2L dIx 3 (mC (.int 0))) (mCons (mV 9) mNil))) (mNil))))
noncomputable def c_f_law_pairs_4 : M D := mLc [10] (mIt (mV 4)) (gN 10) (mB (m2 dEq (mCallH [.sl 0, .fz] MF_f_law_draw ((mV 0).bind fun _ => mCons (mC (.int 3)) (mNil))) (mC (.int 0)))) (mV 10)
noncomputable def m_f_law_pairs : MS := (mPar [2, 3, 4, 5] (mCons (m1 dLr (mV 1)) (mCons (mLst (mNil)) (mCons (mLst (mNil)) (mCons (mCallH [.sl 0, .fz] MF_f_law_draw ((mV 0).bind fun _ => mCons (mC (.int 6)) (mNil))) (mNil)))))).sq ((l_f_law_pairs_1).sq ((l_f_law_pairs_2).sq ((mSet 7 (m2 dIx (mLst (mCons (mLst (mNil)) (mCons (mLst (mNil)) (mCons (mLst (mNil)) (mCons (mLst (mNil)) (mCons (mLst (mNil)) (mCons (mV 4) (mNil)))))))) (mV 5))).sq ((mIfS (mB (m2 dIn (mV 5) (mLst (mCons (mC (.int 1)) (mCons (mC (.int 2)) (mNil)))))) (mSet 7 (c_f_law_pairs_2)) (mNx)).sq ((mIfS (mAnd (mB (m2 dEq (mV 5) (mC (.int 2)))) (mB (m2 dGt (mV 1) (mC (.int 2))))) (mSet 7 (m2 dAdd (mV 7) (mLst (mCons (mTup (mCons (mA dMin2 (mCons (m2L dIx 3 (mC (.int 0))) (mCons (m2L dIx 3 (m2 dSub (mV 1) (mC (.int 1)))) mNil))) (mCons (mA dMax2 (mCons (m2L dIx 3 (mC (.int 0))) (mCons (m2L dIx 3 (m2 dSub (mV 1) (mC (.int 1)))) mNil))) (mNil)))) (mNil))))) (mNx)).sq ((mIfS (mB (m2 dEq (mV 5) (mC (.int 3)))) (mSet 7 (c_f_law_pairs_3)) (mNx)).sq ((mIfS (mB (m2 dEq (mV 5) (mC (.int 4)))) (mSet 7 (c_f_law_pairs_4)) (mNx)).sq (mRet (mA dSorted (mCons (mV 7) mNil))))))))))
noncomputable def MF_f_law_pairs : MFn := mFn 11 [.io, .fz] false m_f_law_pairs
theorem s_f_law_pairs : FnScope (["_law_hand_here", "_law_count", "_law_left", "_law_spots", "_law_every", "_law_way", "_law_k", "_law_found", "_law_j", "_law_mate", "_law_pair"] : List PySem.Str) (["_law_hand_here", "_law_count"] : List PySem.Str) (d_f_law_pairs).scope := ⟨rfl, rfl, rfl, by decide +kernel, rfl, by decide +kernel, by decide +kernel⟩
theorem w_f_law_pairs {P : Program} {w : World} {K : Frag} {mg : PySem.Str → Option Value} {h : Heap} (y : Hy K mg h) : ∃ fd, FunD K (d_f_law_pairs).name (d_f_law_pairs).qual (d_f_law_pairs).params (d_f_law_pairs).body (d_f_law_pairs).scope ((d_f_law_pairs).dvs K) ((d_f_law_pairs).kws K) (He.fAd K ("_law_pairs", none)) fd ∧ BnF K fd (["_law_hand_here", "_law_count"] : List PySem.Str) ∧ PySem.W.keepIn K (.ref (He.fAd K ("_law_pairs", none))) = true ∧ mg "_law_pairs" = some (.ref (He.fAd K ("_law_pairs", none))) ∧ ∀ base : Heap, FnG P w K mg base (L2.CX P w) 2 (He.fAd K ("_law_pairs", none)) fd (["_law_hand_here", "_law_count"] : List PySem.Str) (SpG K (ct K) [.io, .fz] false MF_f_law_pairs) := by
  obtain ⟨fd_f_law_draw, f_law_draw_d, f_law_draw_b, f_law_draw_k, f_law_draw_m, f_law_draw_r⟩ := w_f_law_draw (P := P) (w := w) y
  obtain ⟨fd, D⟩ := y.says.def_ 19
  refine ⟨fd, D, (bnF (D.bindsN fun _ _ _ _ _ _ us hl => match us, hl with | [_, _], _ => rfl)), D.kp, y.glo 43, fun base => fn_g (N := (["_law_hand_here", "_law_count", "_law_left", "_law_spots", "_law_every", "_law_way", "_law_k", "_law_found", "_law_j", "_law_mate", "_law_pair"] : List PySem.Str)) (ps := (["_law_hand_here", "_law_count"] : List PySem.Str)) (ks := [.io, .fz]) (Γl := [.ow, .ow, .ow, .fz, .fz, .fz, .fz, .fz, .fz]) (Γ' := [.io, .fz, .ow, .ow, .fz, .fz, .fz, .fz, .fz, .fz, .fz]) (ro := false) (b := m_f_law_pairs) D s_f_law_pairs fun X S cdv A outer s H E hX hK hc hge hro tk gd room po => ?_⟩
  obtain ⟨⟨SK, Sct, F0, H0, ios⟩, Sge, SW, gc, gb, Sro⟩ := S
  have hK1 : SK = K := hK; have hc1 : Sct = ct K := hc; clear hK hc; subst hc1; subst hK1; cases hge; cases hro; subst hX
  have hu := room.units
  have nd : (["_law_hand_here", "_law_count", "_law_left", "_law_spots", "_law_every", "_law_way", "_law_k", "_law_found", "_law_j", "_law_mate", "_law_pair"] : List PySem.Str).Nodup := by decide +kernel
  exact ss_cons (Γ1 := [.io, .fz, .ow, .ow, .ow, .fz, .fz, .fz, .fz, .fz, .fz]) (s_parN (is := [2, 3, 4, 5]) (bs := [true, true, true, false]) rfl (v_ow (o_lr rfl (e_v (pv 1)) (y.free 27) (y.free 41)) (v_ow (o_lst (a_nil)) (v_ow (o_lst (a_nil)) (v_fz (e_h (sh := [.sl 0, .fz]) (ks := [.io, .fz]) (MF := MF_f_law_draw) ⟨(f_law_draw_r base).mono (k := 1) (by decide), gd, room⟩ f_law_draw_m f_law_draw_k f_law_draw_b tk (.inl rfl) (h_sl (pv 0) (h_fz (e_int) (h_nil)))) (v_nil))))) (gs_cons nd rfl (by first | exact Or.inl rfl | exact Or.inr rfl) (by first | exact Or.inr rfl | exact Or.inl rfl) (gs_cons nd rfl (by first | exact Or.inl rfl | exact Or.inr rfl) (by first | exact Or.inr rfl | exact Or.inl rfl) (gs_cons nd rfl (by first | exact Or.inl rfl | exact Or.inr rfl) (by first | exact Or.inr rfl | exact Or.inl rfl) (gs_cons nd rfl (by first | exact Or.inl rfl | exact Or.inr rfl) (by first | exact Or.inr rfl | exact Or.inl rfl) (gs_nil))))) rfl) (ss_cons (Γ1 := [.io, .fz, .ow, .ow, .ow, .fz, .fz, .fz, .fz, .fz, .fz]) (s_while po (t_cmpL (c_ne hu rfl) (pv 2) (e_r (e_lst (a_nil)))) (ss_one (s_exp (e_mt F.slot_list_append F.type_list_append mt_append mk_append (pv 3) (a_cons (e_mt F.slot_list_pop F.type_list_pop mt_popAt mk_popAt (pv 2) (a_cons (e_h (sh := [.sl 0, .fz]) (ks := [.io, .fz]) (MF := MF_f_law_draw) ⟨(f_law_draw_r base).mono (k := 1) (by decide), gd, room⟩ f_law_draw_m f_law_draw_k f_law_draw_b tk (.inl rfl) (h_sl (pv 0) (h_fz (e_cb (b_len rfl) (a_oneR (r_v (pv 2))) (y.free 3)) (h_nil)))) (a_nil)) rfl (by decide) rfl) (a_nil)) rfl (by decide) rfl)))) (ss_cons (Γ1 := [.io, .fz, .ow, .ow, .ow, .fz, .fz, .fz, .fz, .fz, .fz]) (s_for (Γ1 := [.io, .fz, .ow, .ow, .ow, .fz, .fz, .fz, .fz, .fz, .fz]) (is := [6]) po rfl (i_rng1 (a_cons (e_v (pv 1)) (a_nil)) (y.free 41)) (g_name (i := 6) nd rfl (by first | exact Or.inl rfl | exact Or.inr rfl) (by first | exact Or.inr rfl | exact Or.inl rfl) ⟨_, rfl, by decide⟩) (ss_one (s_exp (e_mt F.slot_list_extend F.type_list_extend mt_extend mk_extend (pv 4) (a_cons (e_o (o_lc (own := [("_law_j", 8)]) (is := [8]) rfl nd (i_rng2 (a_cons (e_add (e_v (pv 6)) (e_r (e_int))) (a_cons (e_v (pv 1)) (a_nil))) (y.free 41)) rfl (fun _ _ _ _ _ => g_name (i := 8) nd rfl (by first | exact Or.inl rfl | exact Or.inr rfl) (by first | exact Or.inr rfl | exact Or.inl rfl) ⟨_, rfl, by decide⟩) (fun _ _ _ _ _ => ts_nil) (fun _ _ _ _ _ => e_tup (a_cons (e_v (pv 6)) (a_cons (e_v (pv 8)) (a_nil)))))) (a_nil)) rfl (by decide) rfl)))) (ss_frz (Γ2 := [.io, .fz, .ow, .ow, .fz, .fz, .fz, .fz, .fz, .fz, .fz]) [4] (ss_cons (Γ1 := [.io, .fz, .ow, .ow, .fz, .fz, .fz, .fz, .fz, .fz, .fz]) (s_set (i := 7) (e_ix (e_lst (a_cons (e_lst (a_nil)) (a_cons (e_lst (a_nil)) (a_cons (e_lst (a_nil)) (a_cons (e_lst (a_nil)) (a_cons (e_lst (a_nil)) (a_cons (e_v (pv 4)) (a_nil)))))))) (e_v (pv 5))) nd rfl (by first | exact Or.inl rfl | exact Or.inr rfl) (by first | exact Or.inr rfl | exact Or.inl rfl) ⟨_, rfl, by decide⟩) (ss_cons (Γ1 := [.io, .fz, .ow, .ow, .fz, .fz, .fz, .fz, .fz, .fz, .fz]) (s_if (t_cmp (c_in hu rfl) (e_v (pv 5)) (e_r (e_lst (a_cons (e_int) (a_cons (e_int) (a_nil)))))) (ss_post (Γ1 := [.io, .fz, .ow, .ow, .fz, .fz, .fz, .ow, .fz, .fz, .fz]) [7] (ss_one (s_setLc (i := 7) (own := [("_law_k", 6)]) (is := [6]) rfl nd rfl rfl rfl ⟨_, rfl, by decide⟩ (i_rng1 (a_cons (e_sub (e_v (pv 1)) (e_r (e_int))) (a_nil)) (y.free 41)) rfl (fun _ _ _ _ _ => g_name (i := 6) nd rfl (by first | exact Or.inl rfl | exact Or.inr rfl) (by first | exact Or.inr rfl | exact Or.inl rfl) ⟨_, rfl, by decide⟩) (fun _ _ _ _ _ => ts_nil) (fun _ _ _ _ _ => e_tup (a_cons (e_cb (b_min2 rfl) (a_consR (e_ixL (pv 3) (e_v (pv 6))) (a_oneR (e_r (e_ixL (pv 3) (e_add (e_v (pv 6)) (e_r (e_int))))))) (y.free 25)) (a_cons (e_cb (b_max2 rfl) (a_consR (e_ixL (pv 3) (e_v (pv 6))) (a_oneR (e_r (e_ixL (pv 3) (e_add (e_v (pv 6)) (e_r (e_int))))))) (y.free 24)) (a_nil))))))) (ss_nil)) (ss_cons (Γ1 := [.io, .fz, .ow, .ow, .fz, .fz, .fz, .fz, .fz, .fz, .fz]) (s_if (t_w (w_and (t_cmp (c_eq hu rfl) (e_v (pv 5)) (e_r (e_int))) (w_and1 (t_cmp (c_gt hu rfl) (e_v (pv 1)) (e_r (e_int)))))) (ss_one (s_set (i := 7) (e_add (e_v (pv 7)) (e_r (e_lst (a_cons (e_tup (a_cons (e_cb (b_min2 rfl) (a_consR (e_ixL (pv 3) (e_int)) (a_oneR (e_r (e_ixL (pv 3) (e_sub (e_v (pv 1)) (e_r (e_int))))))) (y.free 25)) (a_cons (e_cb (b_max2 rfl) (a_consR (e_ixL (pv 3) (e_int)) (a_oneR (e_r (e_ixL (pv 3) (e_sub (e_v (pv 1)) (e_r (e_int))))))) (y.free 24)) (a_nil)))) (a_nil))))) nd rfl (by first | exact Or.inl rfl | exact Or.inr rfl) (by first | exact Or.inr rfl | exact Or.inl rfl) ⟨_, rfl, by decide⟩)) (ss_nil)) (ss_cons (Γ1 := [.io, .fz, .ow, .ow, .fz, .fz, .fz, .fz, .fz, .fz, .fz]) (s_if (t_cmp (c_eq hu rfl) (e_v (pv 5)) (e_r (e_int))) (ss_post (Γ1 := [.io, .fz, .ow, .ow, .fz, .fz, .fz, .ow, .fz, .fz, .fz]) [7] (ss_one (s_setLc (i := 7) (own := [("_law_mate", 9)]) (is := [9]) rfl nd rfl rfl rfl ⟨_, rfl, by decide⟩ (i_any (e_slL (pv 3) (p_some (e_int)) (p_none))) rfl (fun _ _ _ _ _ => g_name (i := 9) nd rfl (by first | exact Or.inl rfl | exact Or.inr rfl) (by first | exact Or.inr rfl | exact Or.inl rfl) ⟨_, rfl, by decide⟩) (fun _ _ _ _ _ => ts_nil) (fun _ _ _ _ _ => e_tup (a_cons (e_cb (b_min2 rfl) (a_consR (e_ixL (pv 3) (e_int)) (a_oneR (e_r (e_v (pv 9))))) (y.free 25)) (a_cons (e_cb (b_max2 rfl) (a_consR (e_ixL (pv 3) (e_int)) (a_oneR (e_r (e_v (pv 9))))) (y.free 24)) (a_nil))))))) (ss_nil)) (ss_cons (Γ1 := [.io, .fz, .ow, .ow, .fz, .fz, .fz, .fz, .fz, .fz, .fz]) (s_if (t_cmp (c_eq hu rfl) (e_v (pv 5)) (e_r (e_int))) (ss_post (Γ1 := [.io, .fz, .ow, .ow, .fz, .fz, .fz, .ow, .fz, .fz, .fz]) [7] (ss_one (s_setLc (i := 7) (own := [("_law_pair", 10)]) (is := [10]) rfl nd rfl rfl rfl ⟨_, rfl, by decide⟩ (i_any (e_v (pv 4))) rfl (fun _ _ _ _ _ => g_name (i := 10) nd rfl (by first | exact Or.inl rfl | exact Or.inr rfl) (by first | exact Or.inr rfl | exact Or.inl rfl) ⟨_, rfl, by decide⟩) (fun _ _ _ _ _ => ts_one (t_cmp (c_eq hu rfl) (e_h (sh := [.sl 0, .fz]) (ks := [.io, .fz]) (MF := MF_f_law_draw) ⟨(f_law_draw_r base).mono (k := 1) (by decide), gd, room⟩ f_law_draw_m f_law_draw_k f_law_draw_b tk_no (.inl rfl) (h_sl (pv 0) (h_fz (e_int) (h_nil)))) (e_r (e_int)))) (fun _ _ _ _ _ => e_v (pv 10))))) (ss_nil)) (ss_one (s_ret (e_cb (b_sorted hu rfl) (a_oneR (e_r (e_v (pv 7)))) (y.free 42))))))))))))
end Law
namespace Law
open PySem PySem.Spec PyProof.Rows L2 G
/-! ### _law_calls -/
noncomputable def c_f_law_calls_1 : M D := mLc [8] (mRg1 (mCons (m2 dAdd (mC (.int 1)) (mCallH [.sl 0, .fz] MF_f_law_draw ((mV 0).bind fun _ => mCons (mC (.int 6)) (mNil)))) (mNil))) (gN 8) (mYes) (m2 dIx (mV 3) (mCallH [.sl 0, .fz] MF_f_law_draw ((mV 0).bind fun _ => mCons (mC (.int 26)) (mNil))))
noncomputable def c_f_law_calls_2 : M D := mLc [9] (mIt (mV 3)) (gN 9) (mYes) (m2 dAdd (mSl (mV 6) (M.ret none) (mPt (mC (.int 5)))) (mV 9))
noncomputable def c_f_law_calls_3 : M D := mLc [10] (mIt (mV 7)) (gN 10) (mB (m2 dNin (mV 10) (mV 4))) (mV 10)
noncomputable def b_f_law_calls_1 : MS := (mSet 6 (m2 dIx (mV 2) (mCallH [.sl 0, .fz] MF_f_law_draw ((mV 0).bind fun _ => mCons (mC (.int 12)) (mNil))))).sq ((mIfS (mB (m2 dGt (mCallH [.sl 0, .fz] MF_f_law_draw ((mV 0).bind fun _ => mCons (mC (.int 3)) (mNil))) (mC (.int 0)))) (mSet 6 (mJo (mC (.str "")) (c_f_law_calls_1))) (mNx)).sq ((mSet 7 (m2 dAdd (mLst (mCons (mV 6) (mNil))) (c_f_law_calls_2))).sq (mExp (mMl 4 hAppend (mCons (m2 dIx (c_f_law_calls_3) (mC (.int 0))) (mNil))))))
noncomputable def l_f_law_calls_1 : MS := mFor (mRg1 (mCons (mV 1) (mNil))) (gN 5) b_f_law_calls_1
noncomputable def m_f_law_calls : MS := (mSet 2 (mLst (mCons (mC (.str "gauge")) (mCons (mC (.str "top")) (mCons (mC (.str "tie")) (mCons (mC (.str "untie")) (mCons (mC (.str "turn")) (mCons (mC (.str "knock")) (mCons (mC (.str "back")) (mCons (mC (.str "shows")) (mCons (mC (.str "all")) (mCons (mC (.str "can")) (mCons (mC (.str "fields")) (mCons (mC (.str "to")) (mNil))))))))))))))).sq ((mPar [3, 4] (mCons (mC (.str "abcdefghijklmnopqrstuvwxyz")) (mCons (mLst (mNil)) (mNil)))).sq ((l_f_law_calls_1).sq (mRet (mA dSorted (mCons (mV 4) mNil)))))
noncomputable def MF_f_law_calls : MFn := mFn 11 [.io, .fz] false m_f_law_calls
theorem s_f_law_calls : FnScope (["_law_hand_here", "_law_count", "_law_own", "_law_letters", "_law_found", "_law_go", "_law_word", "_law_some", "_law_k", "_law_letter", "_law_call"] : List PySem.Str) (["_law_hand_here", "_law_count"] : List PySem.Str) (d_f_law_calls).scope := ⟨rfl, rfl, rfl, by decide +kernel, rfl, by decide +kernel, by decide +kernel⟩
theorem w_f_law_calls {P : Program} {w : World} {K : Frag} {mg : PySem.Str → Option Value} {h : Heap} (y : Hy K mg h) : ∃ fd, FunD K (d_f_law_calls).name (d_f_law_calls).qual (d_f_law_calls).params (d_f_law_calls).body (d_f_law_calls).scope ((d_f_law_calls).dvs K) ((d_f_law_calls).kws K) (He.fAd K ("_law_calls", none)) fd ∧ BnF K fd (["_law_hand_here", "_law_count"] : List PySem.Str) ∧ PySem.W.keepIn K (.ref (He.fAd K ("_law_calls", none))) = true ∧ mg "_law_calls" = some (.ref (He.fAd K ("_law_calls", none))) ∧ ∀ base : Heap, FnG P w K mg base (L2.CX P w) 2 (He.fAd K ("_law_calls", none)) fd (["_law_hand_here", "_law_count"] : List PySem.Str) (SpG K (ct K) [.io, .fz] false MF_f_law_calls) := by
  obtain ⟨fd_f_law_draw, f_law_draw_d, f_law_draw_b, f_law_draw_k, f_law_draw_m, f_law_draw_r⟩ := w_f_law_draw (P := P) (w := w) y
  obtain ⟨fd, D⟩ := y.says.def_ 20
  refine ⟨fd, D, (bnF (D.bindsN fun _ _ _ _ _ _ us hl => match us, hl with | [_, _], _ => rfl)), D.kp, y.glo 44, fun base => fn_g (N := (["_law_hand_here", "_law_count", "_law_own", "_law_letters", "_law_found", "_law_go", "_law_word", "_law_some", "_law_k", "_law_letter", "_law_call"] : List PySem.Str)) (ps := (["_law_hand_here", "_law_count"] : List PySem.Str)) (ks := [.io, .fz]) (Γl := [.fz, .fz, .ow, .fz, .fz, .fz, .fz, .fz, .fz]) (Γ' := [.io, .fz, .fz, .fz, .ow, .fz, .fz, .fz, .fz, .fz, .fz]) (ro := false) (b := m_f_law_calls) D s_f_law_calls fun X S cdv A outer s H E hX hK hc hge hro tk gd room po => ?_⟩
  obtain ⟨⟨SK, Sct, F0, H0, ios⟩, Sge, SW, gc, gb, Sro⟩ := S
  have hK1 : SK = K := hK; have hc1 : Sct = ct K := hc; clear hK hc; subst hc1; subst hK1; cases hge; cases hro; subst hX
  have hu := room.units
  have nd : (["_law_hand_here", "_law_count", "_law_own", "_law_letters", "_law_found", "_law_go", "_law_word", "_law_some", "_law_k", "_law_letter", "_law_call"] : List PySem.Str).Nodup := by decide +kernel
  exact ss_cons (Γ1 := [.io, .fz, .fz, .fz, .ow, .fz, .fz, .fz, .fz, .fz, .fz]) (s_set (i := 2) (e_lst (a_cons (e_str) (a_cons (e_str) (a_cons (e_str) (a_cons (e_str) (a_cons (e_str) (a_cons (e_str) (a_cons (e_str) (a_cons (e_str) (a_cons (e_str) (a_cons (e_str) (a_cons (e_str) (a_cons (e_str) (a_nil)))))))))))))) nd rfl (by first | exact Or.inl rfl | exact Or.inr rfl) (by first | exact Or.inr rfl | exact Or.inl rfl) ⟨_, rfl, by decide⟩) (ss_cons (Γ1 := [.io, .fz, .fz, .fz, .ow, .fz, .fz, .fz, .fz, .fz, .fz]) (s_parN (is := [3, 4]) (bs := [false, true]) rfl (v_fz (e_str) (v_ow (o_lst (a_nil)) (v_nil))) (gs_cons nd rfl (by first | exact Or.inl rfl | exact Or.inr rfl) (by first | exact Or.inr rfl | exact Or.inl rfl) (gs_cons nd rfl (by first | exact Or.inl rfl | exact Or.inr rfl) (by first | exact Or.inr rfl | exact Or.inl rfl) (gs_nil))) rfl) (ss_cons (Γ1 := [.io, .fz, .fz, .fz, .ow, .fz, .fz, .fz, .fz, .fz, .fz]) (s_for (Γ1 := [.io, .fz, .fz, .fz, .ow, .fz, .fz, .fz, .fz, .fz, .fz]) (is := [5]) po rfl (i_rng1 (a_cons (e_v (pv 1)) (a_nil)) (y.free 41)) (g_name (i := 5) nd rfl (by first | exact Or.inl rfl | exact Or.inr rfl) (by first | exact Or.inr rfl | exact Or.inl rfl) ⟨_, rfl, by decide⟩) (ss_cons (Γ1 := [.io, .fz, .fz, .fz, .ow, .fz, .fz, .fz, .fz, .fz, .fz]) (s_set (i := 6) (e_ix (e_v (pv 2)) (e_h (sh := [.sl 0, .fz]) (ks := [.io, .fz]) (MF := MF_f_law_draw) ⟨(f_law_draw_r base).mono (k := 1) (by decide), gd, room⟩ f_law_draw_m f_law_draw_k f_law_draw_b tk (.inl rfl) (h_sl (pv 0) (h_fz (e_int) (h_nil))))) nd rfl (by first | exact Or.inl rfl | exact Or.inr rfl) (by first | exact Or.inr rfl | exact Or.inl rfl) ⟨_, rfl, by decide⟩) (ss_cons (Γ1 := [.io, .fz, .fz, .fz, .ow, .fz, .fz, .fz, .fz, .fz, .fz]) (s_if (t_cmp (c_gt hu rfl) (e_h (sh := [.sl 0, .fz]) (ks := [.io, .fz]) (MF := MF_f_law_draw) ⟨(f_law_draw_r base).mono (k := 1) (by decide), gd, room⟩ f_law_draw_m f_law_draw_k f_law_draw_b tk (.inl rfl) (h_sl (pv 0) (h_fz (e_int) (h_nil)))) (e_r (e_int))) (ss_one (s_set (i := 6) (e_join (e_str) (e_r (e_o (o_lc (own := [("_law_k", 8)]) (is := [8]) rfl nd (i_rng1 (a_cons (e_add (e_int) (e_r (e_h (sh := [.sl 0, .fz]) (ks := [.io, .fz]) (MF := MF_f_law_draw) ⟨(f_law_draw_r base).mono (k := 1) (by decide), gd, room⟩ f_law_draw_m f_law_draw_k f_law_draw_b tk (.inl rfl) (h_sl (pv 0) (h_fz (e_int) (h_nil)))))) (a_nil)) (y.free 41)) rfl (fun _ _ _ _ _ => g_name (i := 8) nd rfl (by first | exact Or.inl rfl | exact Or.inr rfl) (by first | exact Or.inr rfl | exact Or.inl rfl) ⟨_, rfl, by decide⟩) (fun _ _ _ _ _ => ts_nil) (fun _ _ _ _ _ => e_ix (e_v (pv 3)) (e_h (sh := [.sl 0, .fz]) (ks := [.io, .fz]) (MF := MF_f_law_draw) ⟨(f_law_draw_r base).mono (k := 1) (by decide), gd, room⟩ f_law_draw_m f_law_draw_k f_law_draw_b tk_no (.inl rfl) (h_sl (pv 0) (h_fz (e_int) (h_nil)))))))) rfl) nd rfl (by first | exact Or.inl rfl | exact Or.inr rfl) (by first | exact Or.inr rfl | exact Or.inl rfl) ⟨_, rfl, by decide⟩)) (ss_nil)) (ss_cons (Γ1 := [.io, .fz, .fz, .fz, .ow, .fz, .fz, .fz, .fz, .fz, .fz]) (s_set (i := 7) (e_add (e_lst (a_cons (e_v (pv 6)) (a_nil))) (e_r (e_o (o_lc (own := [("_law_letter", 9)]) (is := [9]) rfl nd (i_any (e_v (pv 3))) rfl (fun _ _ _ _ _ => g_name (i := 9) nd rfl (by first | exact Or.inl rfl | exact Or.inr rfl) (by first | exact Or.inr rfl | exact Or.inl rfl) ⟨_, rfl, by decide⟩) (fun _ _ _ _ _ => ts_nil) (fun _ _ _ _ _ => e_add (e_sl (e_v (pv 6)) (p_none) (p_some (e_int))) (e_r (e_v (pv 9)))))))) nd rfl (by first | exact Or.inl rfl | exact Or.inr rfl) (by first | exact Or.inr rfl | exact Or.inl rfl) ⟨_, rfl, by decide⟩) (ss_one (s_exp (e_mt F.slot_list_append F.type_list_append mt_append mk_append (pv 4) (a_cons (e_ix (e_o (o_lc (own := [("_law_call", 10)]) (is := [10]) rfl nd (i_any (e_v (pv 7))) rfl (fun _ _ _ _ _ => g_name (i := 10) nd rfl (by first | exact Or.inl rfl | exact Or.inr rfl) (by first | exact Or.inr rfl | exact Or.inl rfl) ⟨_, rfl, by decide⟩) (fun _ _ _ _ _ => ts_one (t_cmp (c_nin hu rfl) (e_v (pv 10)) (r_v (pv 4)))) (fun _ _ _ _ _ => e_v (pv 10)))) (e_int)) (a_nil)) rfl (by decide) rfl))))))) (ss_one (s_ret (e_cb (b_sorted hu rfl) (a_oneR (r_v (pv 4))) (y.free 42))))))
end Law
namespace Law
open PySem PySem.Spec PyProof.Rows L2 G
/-! ### _law_near -/
noncomputable def c_f_law_near_1 : M D := mLc [3, 4] (mIt (mV 1)) (gT 2 (gC (gN 3) (gC (gN 4) (gE)))) (mB (m2 dEq (mV 4) (mV 2))) (mV 3)
noncomputable def c_f_law_near_2 : M D := mLc [3, 4] (mIt (mV 1)) (gT 2 (gC (gN 3) (gC (gN 4) (gE)))) (mB (m2 dEq (mV 3) (mV 2))) (mV 4)
noncomputable def c_f_law_near_3 : M D := mLc [2] (mRg1 (mCons (mV 0) (mNil))) (gN 2) (mYes) (mA dSorted (mCons (m2 dAdd (c_f_law_near_2) (c_f_law_near_1)) mNil))
noncomputable def m_f_law_near : MS := mRet (c_f_law_near_3)
noncomputable def MF_f_law_near : MFn := mFn 5 [.fz, .fz] false m_f_law_near
theorem s_f_law_near : FnScope (["_law_count", "_law_pairs_here", "_law_spot", "_law_k", "_law_j"] : List PySem.Str) (["_law_count", "_law_pairs_here"] : List PySem.Str) (d_f_law_near).scope := ⟨rfl, rfl, rfl, by decide +kernel, rfl, by decide +kernel, by decide +kernel⟩
theorem w_f_law_near {P : Program} {w : World} {K : Frag} {mg : PySem.Str → Option Value} {h : Heap} (y : Hy K mg h) : ∃ fd, FunD K (d_f_law_near).name (d_f_law_near).qual (d_f_law_near).params (d_f_law_near).body (d_f_law_near).scope ((d_f_law_near).dvs K) ((d_f_law_near).kws K) (He.fAd K ("_law_near", none)) fd ∧ BnF K fd (["_law_count", "_law_pairs_here"] : List PySem.Str) ∧ PySem.W.keepIn K (.ref (He.fAd K ("_law_near", none))) = true ∧ mg "_law_near" = some (.ref (He.fAd K ("_law_near", none))) ∧ ∀ base : Heap, FnG P w K mg base (L2.CX P w) 1 (He.fAd K ("_law_near", none)) fd (["_law_count", "_law_pairs_here"] : List PySem.Str) (SpG K (ct K) [.fz, .fz] false MF_f_law_near) := by
  obtain ⟨fd, D⟩ := y.says.def_ 21
  refine ⟨fd, D, (bnF (D.bindsN fun _ _ _ _ _ _ us hl => match us, hl with | [_, _], _ => rfl)), D.kp, y.glo 45, fun base => fn_g (N := (["_law_count", "_law_pairs_here", "_law_spot", "_law_k", "_law_j"] : List PySem.Str)) (ps := (["_law_count", "_law_pairs_here"] : List PySem.Str)) (ks := [.fz, .fz]) (Γl := [.fz, .fz, .fz]) (Γ' := [.fz, .fz, .fz, .fz, .fz]) (ro := false) (b := m_f_law_near) D s_f_law_near fun X S cdv A outer s H E hX hK hc hge hro tk gd room po => ?_⟩
  obtain ⟨⟨SK, Sct, F0, H0, ios⟩, Sge, SW, gc, gb, Sro⟩ := S
  have hK1 : SK = K := hK; have hc1 : Sct = ct K := hc; clear hK hc; subst hc1; subst hK1; cases hge; cases hro; subst hX
  have hu := room.units
  have nd : (["_law_count", "_law_pairs_here", "_law_spot", "_law_k", "_law_j"] : List PySem.Str).Nodup := by decide +kernel
  exact ss_one (s_ret (e_o (o_lc (own := [("_law_spot", 2)]) (is := [2]) rfl nd (i_rng1 (a_cons (e_v (pv 0)) (a_nil)) (y.free 41)) rfl (fun _ _ _ _ _ => g_name (i := 2) nd rfl (by first | exact Or.inl rfl | exact Or.inr rfl) (by first | exact Or.inr rfl | exact Or.inl rfl) ⟨_, rfl, by decide⟩) (fun _ _ _ _ _ => ts_nil) (fun _ _ _ _ _ => e_cb (b_sorted hu rfl) (a_oneR (e_r (e_add (e_o (o_lc (own := [("_law_k", 3), ("_law_j", 4)]) (is := [3, 4]) rfl nd (i_any (e_v (pv 1))) rfl (fun _ _ _ _ _ => g_tup rfl (g_cons (g_name (i := 3) nd rfl (by first | exact Or.inl rfl | exact Or.inr rfl) (by first | exact Or.inr rfl | exact Or.inl rfl) ⟨_, rfl, by decide⟩) (g_cons (g_name (i := 4) nd rfl (by first | exact Or.inl rfl | exact Or.inr rfl) (by first | exact Or.inr rfl | exact Or.inl rfl) ⟨_, rfl, by decide⟩) (g_nil)))) (fun _ _ _ _ _ => ts_one (t_cmp (c_eq hu rfl) (e_v (pv 3)) (e_r (e_v (pv 2))))) (fun _ _ _ _ _ => e_v (pv 4)))) (e_r (e_o (o_lc (own := [("_law_k", 3), ("_law_j", 4)]) (is := [3, 4]) rfl nd (i_any (e_v (pv 1))) rfl (fun _ _ _ _ _ => g_tup rfl (g_cons (g_name (i := 3) nd rfl (by first | exact Or.inl rfl | exact Or.inr rfl) (by first | exact Or.inr rfl | exact Or.inl rfl) ⟨_, rfl, by decide⟩) (g_cons (g_name (i := 4) nd rfl (by first | exact Or.inl rfl | exact Or.inr rfl) (by first | exact Or.inr rfl | exact Or.inl rfl) ⟨_, rfl, by decide⟩) (g_nil)))) (fun _ _ _ _ _ => ts_one (t_cmp (c_eq hu rfl) (e_v (pv 4)) (e_r (e_v (pv 2))))) (fun _ _ _ _ _ => e_v (pv 3)))))))) (y.free 42)))))
end Law
namespace Law
open PySem PySem.Spec PyProof.Rows L2 G
/-! ### _law_moor_small -/
noncomputable def b_f_law_moor_small_1 : MS := (mSet 5 (m2 dIx (mLst (mCons (mCallH [.sl 0, .fz] MF_f_law_draw ((mV 0).bind fun _ => mCons (mC (.int 4)) (mNil))) (mCons (m2 dAdd (mC (.int 1)) (mCallH [.sl 0, .fz] MF_f_law_draw ((mV 0).bind fun _ => mCons (mC (.int 3)) (mNil)))) (mCons (mCallH [.sl 0, .fz] MF_f_law_draw ((mV 0).bind fun _ => mCons (mC (.int 10)) (mNil))) (mNil))))) (mCallH [.sl 0, .fz] MF_f_law_draw ((mV 0).bind fun _ => mCons (mC (.int 3)) (mNil))))).sq (mIfS (mB (m2 dLe (m2 dMul (mV 3) (m2 dAdd (mV 5) (mC (.int 1)))) (mV 1))) (mPar [2, 3] (mCons (m2 dAdd (mV 2) (mLst (mCons (mV 5) (mNil)))) (mCons (m2 dMul (mV 3) (m2 dAdd (mV 5) (mC (.int 1)))) (mNil)))) (mNx))
noncomputable def l_f_law_moor_small_1 : MS := mFor (mRg1 (mCons (m2 dAdd (mC (.int 1)) (mCallH [.sl 0, .fz] MF_f_law_draw ((mV 0).bind fun _ => mCons (mC (.int 6)) (mNil)))) (mNil))) (gN 4) b_f_law_moor_small_1
noncomputable def m_f_law_moor_small : MS := (mPar [2, 3] (mCons (mLst (mNil)) (mCons (mC (.int 1)) (mNil)))).sq ((l_f_law_moor_small_1).sq ((mSet 6 (mCallH [.sl 0, .fz] MF_f_law_pairs ((mV 0).bind fun _ => mCons (mA dLen (mCons (mV 2) mNil)) (mNil)))).sq (mRet (mTup (mCons (mCallH [.sl 0, .fz] MF_f_law_calls ((mV 0).bind fun _ => mCons (mA dLen (mCons (mV 2) mNil)) (mNil))) (mCons (mA dTupOf (mCons (mV 2) mNil)) (mCons (mCkd 2 0 2 (fun ds _ => ds) MF_f_law_near (mCons (mA dLen (mCons (mV 2) mNil)) (mCons (mV 6) (mNil))) (mNil)) (mCons (mV 6) (mNil)))))))))
noncomputable def MF_f_law_moor_small : MFn := mFn 7 [.io, .fz] false m_f_law_moor_small
theorem s_f_law_moor_small : FnScope (["_law_hand_here", "_law_most", "_law_highs", "_law_size", "_law_go", "_law_high", "_law_pairs_here"] : List PySem.Str) (["_law_hand_here", "_law_most"] : List PySem.Str) (d_f_law_moor_small).scope := ⟨rfl, rfl, rfl, by decide +kernel, rfl, by decide +kernel, by decide +kernel⟩
theorem w_f_law_moor_small {P : Program} {w : World} {K : Frag} {mg : PySem.Str → Option Value} {h : Heap} (y : Hy K mg h) : ∃ fd, FunD K (d_f_law_moor_small).name (d_f_law_moor_small).qual (d_f_law_moor_small).params (d_f_law_moor_small).body (d_f_law_moor_small).scope ((d_f_law_moor_small).dvs K) ((d_f_law_moor_small).kws K) (He.fAd K ("_law_moor_small", none)) fd ∧ BnF K fd (["_law_hand_here", "_law_most"] : List PySem.Str) ∧ PySem.W.keepIn K (.ref (He.fAd K ("_law_moor_small", none))) = true ∧ mg "_law_moor_small" = some (.ref (He.fAd K ("_law_moor_small", none))) ∧ ∀ base : Heap, FnG P w K mg base (L2.CX P w) 3 (He.fAd K ("_law_moor_small", none)) fd (["_law_hand_here", "_law_most"] : List PySem.Str) (SpG K (ct K) [.io, .fz] false MF_f_law_moor_small) := by
  obtain ⟨fd_f_law_draw, f_law_draw_d, f_law_draw_b, f_law_draw_k, f_law_draw_m, f_law_draw_r⟩ := w_f_law_draw (P := P) (w := w) y
  obtain ⟨fd_f_law_pairs, f_law_pairs_d, f_law_pairs_b, f_law_pairs_k, f_law_pairs_m, f_law_pairs_r⟩ := w_f_law_pairs (P := P) (w := w) y
  obtain ⟨fd_f_law_near, f_law_near_d, f_law_near_b, f_law_near_k, f_law_near_m, f_law_near_r⟩ := w_f_law_near (P := P) (w := w) y
  obtain ⟨fd_f_law_calls, f_law_calls_d, f_law_calls_b, f_law_calls_k, f_law_calls_m, f_law_calls_r⟩ := w_f_law_calls (P := P) (w := w) y
  obtain ⟨fd, D⟩ := y.says.def_ 22
  refine ⟨fd, D, (bnF (D.bindsN fun _ _ _ _ _ _ us hl => match us, hl with | [_, _], _ => rfl)), D.kp, y.glo 46, fun base => fn_g (N := (["_law_hand_here", "_law_most", "_law_highs", "_law_size", "_law_go", "_law_high", "_law_pairs_here"] : List PySem.Str)) (ps := (["_law_hand_here", "_law_most"] : List PySem.Str)) (ks := [.io, .fz]) (Γl := [.fz, .fz, .fz, .fz, .fz]) (Γ' := [.io, .fz, .fz, .fz, .fz, .fz, .fz]) (ro := false) (b := m_f_law_moor_small) D s_f_law_moor_small fun X S cdv A outer s H E hX hK hc hge hro tk gd room po => ?_⟩
  obtain ⟨⟨SK, Sct, F0, H0, ios⟩, Sge, SW, gc, gb, Sro⟩ := S
  have hK1 : SK = K := hK; have hc1 : Sct = ct K := hc; clear hK hc; subst hc1; subst hK1; cases hge; cases hro; subst hX
  have hu := room.units
  have nd : (["_law_hand_here", "_law_most", "_law_highs", "_law_size", "_law_go", "_law_high", "_law_pairs_here"] : List PySem.Str).Nodup := by decide +kernel
  exact ss_cons (Γ1 := [.io, .fz, .fz, .fz, .fz, .fz, .fz]) (s_par2 (i := 2) (j := 3) (ba := false) (bb := false) rfl nd (v_fz (e_lst (a_nil)) (v_fz (e_int) (v_nil))) rfl rfl (by decide) rfl rfl) (ss_cons (Γ1 := [.io, .fz, .fz, .fz, .fz, .fz, .fz]) (s_for (Γ1 := [.io, .fz, .fz, .fz, .fz, .fz, .fz]) (is := [4]) po rfl (i_rng1 (a_cons (e_add (e_int) (e_r (e_h (sh := [.sl 0, .fz]) (ks := [.io, .fz]) (MF := MF_f_law_draw) ⟨(f_law_draw_r base).mono (k := 2) (by decide), gd, room⟩ f_law_draw_m f_law_draw_k f_law_draw_b tk (.inl rfl) (h_sl (pv 0) (h_fz (e_int) (h_nil)))))) (a_nil)) (y.free 41)) (g_name (i := 4) nd rfl (by first | exact Or.inl rfl | exact Or.inr rfl) (by first | exact Or.inr rfl | exact Or.inl rfl) ⟨_, rfl, by decide⟩) (ss_cons (Γ1 := [.io, .fz, .fz, .fz, .fz, .fz, .fz]) (s_set (i := 5) (e_ix (e_lst (a_cons (e_h (sh := [.sl 0, .fz]) (ks := [.io, .fz]) (MF := MF_f_law_draw) ⟨(f_law_draw_r base).mono (k := 2) (by decide), gd, room⟩ f_law_draw_m f_law_draw_k f_law_draw_b tk (.inl rfl) (h_sl (pv 0) (h_fz (e_int) (h_nil)))) (a_cons (e_add (e_int) (e_r (e_h (sh := [.sl 0, .fz]) (ks := [.io, .fz]) (MF := MF_f_law_draw) ⟨(f_law_draw_r base).mono (k := 2) (by decide), gd, room⟩ f_law_draw_m f_law_draw_k f_law_draw_b tk (.inl rfl) (h_sl (pv 0) (h_fz (e_int) (h_nil)))))) (a_cons (e_h (sh := [.sl 0, .fz]) (ks := [.io, .fz]) (MF := MF_f_law_draw) ⟨(f_law_draw_r base).mono (k := 2) (by decide), gd, room⟩ f_law_draw_m f_law_draw_k f_law_draw_b tk (.inl rfl) (h_sl (pv 0) (h_fz (e_int) (h_nil)))) (a_nil))))) (e_h (sh := [.sl 0, .fz]) (ks := [.io, .fz]) (MF := MF_f_law_draw) ⟨(f_law_draw_r base).mono (k := 2) (by decide), gd, room⟩ f_law_draw_m f_law_draw_k f_law_draw_b tk (.inl rfl) (h_sl (pv 0) (h_fz (e_int) (h_nil))))) nd rfl (by first | exact Or.inl rfl | exact Or.inr rfl) (by first | exact Or.inr rfl | exact Or.inl rfl) ⟨_, rfl, by decide⟩) (ss_one (s_if (t_cmp (c_le hu rfl) (e_mul (e_v (pv 3)) (e_r (e_add (e_v (pv 5)) (e_r (e_int))))) (e_r (e_v (pv 1)))) (ss_one (s_par2 (i := 2) (j := 3) (ba := false) (bb := false) rfl nd (v_fz (e_add (e_v (pv 2)) (e_r (e_lst (a_cons (e_v (pv 5)) (a_nil))))) (v_fz (e_mul (e_v (pv 3)) (e_r (e_add (e_v (pv 5)) (e_r (e_int))))) (v_nil))) rfl rfl (by decide) rfl rfl)) (ss_nil))))) (ss_cons (Γ1 := [.io, .fz, .fz, .fz, .fz, .fz, .fz]) (s_set (i := 6) (e_h (sh := [.sl 0, .fz]) (ks := [.io, .fz]) (MF := MF_f_law_pairs) ⟨(f_law_pairs_r base).mono (k := 2) (by decide), gd, room⟩ f_law_pairs_m f_law_pairs_k f_law_pairs_b tk (.inl rfl) (h_sl (pv 0) (h_fz (e_cb (b_len rfl) (a_oneR (e_r (e_v (pv 2)))) (y.free 3)) (h_nil)))) nd rfl (by first | exact Or.inl rfl | exact Or.inr rfl) (by first | exact Or.inr rfl | exact Or.inl rfl) ⟨_, rfl, by decide⟩) (ss_one (s_ret (e_tup (a_cons (e_h (sh := [.sl 0, .fz]) (ks := [.io, .fz]) (MF := MF_f_law_calls) ⟨(f_law_calls_r base).mono (k := 2) (by decide), gd, room⟩ f_law_calls_m f_law_calls_k f_law_calls_b tk (.inl rfl) (h_sl (pv 0) (h_fz (e_cb (b_len rfl) (a_oneR (e_r (e_v (pv 2)))) (y.free 3)) (h_nil)))) (a_cons (e_ct (b_tuple rfl) (a_oneR (e_r (e_v (pv 2)))) (y.free 0)) (a_cons (e_g (ks := [.fz, .fz]) (MF := MF_f_law_near) ⟨(f_law_near_r base).mono (k := 2) (by decide), gd, room⟩ f_law_near_m f_law_near_k f_law_near_b.d tk (.inl rfl) (a_cons (e_cb (b_len rfl) (a_oneR (e_r (e_v (pv 2)))) (y.free 3)) (a_cons (e_v (pv 6)) (a_nil))) rfl) (a_cons (e_v (pv 6)) (a_nil))))))))))
end Law
namespace Law
open PySem PySem.Spec PyProof.Rows L2 G
/-! ### _law_moor_great -/
noncomputable def b_f_law_moor_great_1 : MS := (mSet 5 (mLst (mCons (m2 dPw (mC (.int 10)) (mC (.int 9))) (mCons (mV 2) (mCons (m2 dSub (mV 2) (mC (.int 1))) (mCons (m2 dMul (mV 2) (m2 dAdd (mC (.int 1)) (mCallH [.sl 0, .fz] MF_f_law_draw ((mV 0).bind fun _ => mCons (mC (.int 9)) (mNil))))) (mCons (mCallH [.sl 0, .fz] MF_f_law_draw ((mV 0).bind fun _ => mCons (m2 dAdd (m2 dPw (mC (.int 10)) (mC (.int 9))) (mC (.int 1))) (mNil))) (mNil)))))))).sq (mExp (mMl 3 hAppend (mCons (mA dMin2 (mCons (m2 dPw (mC (.int 10)) (mC (.int 9))) (mCons (m2 dIx (m2 dAdd (mV 5) (mLst (mCons (mCallH [.sl 0, .fz] MF_f_law_draw ((mV 0).bind fun _ => mCons (mC (.int 13)) (mNil))) (mNil)))) (mCallH [.sl 0, .fz] MF_f_law_draw ((mV 0).bind fun _ => mCons (mC (.int 6)) (mNil)))) mNil))) (mNil))))
noncomputable def l_f_law_moor_great_1 : MS := mFor (mRg1 (mCons (mV 1) (mNil))) (gN 4) b_f_law_moor_great_1
noncomputable def m_f_law_moor_great : MS := (mPar [1, 2] (mCons (m2 dAdd (mC (.int 1)) (mCallH [.sl 0, .fz] MF_f_law_draw ((mV 0).bind fun _ => mCons (mC (.int 12)) (mNil)))) (mCons (m2 dIx (mLst (mCons (mC (.int 1)) (mCons (mC (.int 2)) (mCons (mC (.int 6)) (mCons (mC (.int 1000)) (mCons (m2 dAdd (m2 dPw (mC (.int 10)) (mC (.int 6))) (mC (.int 3))) (mCons (m2 dPw (mC (.int 10)) (mC (.int 8))) (mNil)))))))) (mCallH [.sl 0, .fz] MF_f_law_draw ((mV 0).bind fun _ => mCons (mC (.int 6)) (mNil)))) (mNil)))).sq ((mSet 3 (mLst (mNil))).sq ((l_f_law_moor_great_1).sq ((mSet 6 (mCallH [.sl 0, .fz] MF_f_law_pairs ((mV 0).bind fun _ => mCons (mV 1) (mNil)))).sq (mRet (mTup (mCons (mCallH [.sl 0, .fz] MF_f_law_calls ((mV 0).bind fun _ => mCons (mV 1) (mNil))) (mCons (mA dTupOf (mCons (mV 3) mNil)) (mCons (mCkd 2 0 2 (fun ds _ => ds) MF_f_law_near (mCons (mV 1) (mCons (mV 6) (mNil))) (mNil)) (mCons (mV 6) (mNil))))))))))
noncomputable def MF_f_law_moor_great : MFn := mFn 7 [.io] false m_f_law_moor_great
theorem s_f_law_moor_great : FnScope (["_law_hand_here", "_law_count", "_law_base", "_law_highs", "_law_go", "_law_some", "_law_pairs_here"] : List PySem.Str) (["_law_hand_here"] : List PySem.Str) (d_f_law_moor_great).scope := ⟨rfl, rfl, rfl, by decide +kernel, rfl, by decide +kernel, by decide +kernel⟩
theorem w_f_law_moor_great {P : Program} {w : World} {K : Frag} {mg : PySem.Str → Option Value} {h : Heap} (y : Hy K mg h) : ∃ fd, FunD K (d_f_law_moor_great).name (d_f_law_moor_great).qual (d_f_law_moor_great).params (d_f_law_moor_great).body (d_f_law_moor_great).scope ((d_f_law_moor_great).dvs K) ((d_f_law_moor_great).kws K) (He.fAd K ("_law_moor_great", none)) fd ∧ BnF K fd (["_law_hand_here"] : List PySem.Str) ∧ PySem.W.keepIn K (.ref (He.fAd K ("_law_moor_great", none))) = true ∧ mg "_law_moor_great" = some (.ref (He.fAd K ("_law_moor_great", none))) ∧ ∀ base : Heap, FnG P w K mg base (L2.CX P w) 3 (He.fAd K ("_law_moor_great", none)) fd (["_law_hand_here"] : List PySem.Str) (SpG K (ct K) [.io] false MF_f_law_moor_great) := by
  obtain ⟨fd_f_law_draw, f_law_draw_d, f_law_draw_b, f_law_draw_k, f_law_draw_m, f_law_draw_r⟩ := w_f_law_draw (P := P) (w := w) y
  obtain ⟨fd_f_law_pairs, f_law_pairs_d, f_law_pairs_b, f_law_pairs_k, f_law_pairs_m, f_law_pairs_r⟩ := w_f_law_pairs (P := P) (w := w) y
  obtain ⟨fd_f_law_near, f_law_near_d, f_law_near_b, f_law_near_k, f_law_near_m, f_law_near_r⟩ := w_f_law_near (P := P) (w := w) y
  obtain ⟨fd_f_law_calls, f_law_calls_d, f_law_calls_b, f_law_calls_k, f_law_calls_m, f_law_calls_r⟩ := w_f_law_calls (P := P) (w := w) y
  obtain ⟨fd, D⟩ := y.says.def_ 23
  refine ⟨fd, D, (bnF (D.bindsN fun _ _ _ _ _ _ us hl => match us, hl with | [_], _ => rfl)), D.kp, y.glo 47, fun base => fn_g (N := (["_law_hand_here", "_law_count", "_law_base", "_law_highs", "_law_go", "_law_some", "_law_pairs_here"] : List PySem.Str)) (ps := (["_law_hand_here"] : List PySem.Str)) (ks := [.io]) (Γl := [.fz, .fz, .ow, .fz, .fz, .fz]) (Γ' := [.io, .fz, .fz, .ow, .fz, .fz, .fz]) (ro := false) (b := m_f_law_moor_great) D s_f_law_moor_great fun X S cdv A outer s H E hX hK hc hge hro tk gd room po => ?_⟩
  obtain ⟨⟨SK, Sct, F0, H0, ios⟩, Sge, SW, gc, gb, Sro⟩ := S
  have hK1 : SK = K := hK; have hc1 : Sct = ct K := hc; clear hK hc; subst hc1; subst hK1; cases hge; cases hro; subst hX
  have hu := room.units
  have nd : (["_law_hand_here", "_law_count", "_law_base", "_law_highs", "_law_go", "_law_some", "_law_pairs_here"] : List PySem.Str).Nodup := by decide +kernel
  exact ss_cons (Γ1 := [.io, .fz, .fz, .ow, .fz, .fz, .fz]) (s_par2 (i := 1) (j := 2) (ba := false) (bb := false) rfl nd (v_fz (e_add (e_int) (e_r (e_h (sh := [.sl 0, .fz]) (ks := [.io, .fz]) (MF := MF_f_law_draw) ⟨(f_law_draw_r base).mono (k := 2) (by decide), gd, room⟩ f_law_draw_m f_law_draw_k f_law_draw_b tk (.inl rfl) (h_sl (pv 0) (h_fz (e_int) (h_nil)))))) (v_fz (e_ix (e_lst (a_cons (e_int) (a_cons (e_int) (a_cons (e_int) (a_cons (e_int) (a_cons (e_add (e_pw (e_int) (e_r (e_int))) (e_r (e_int))) (a_cons (e_pw (e_int) (e_r (e_int))) (a_nil)))))))) (e_h (sh := [.sl 0, .fz]) (ks := [.io, .fz]) (MF := MF_f_law_draw) ⟨(f_law_draw_r base).mono (k := 2) (by decide), gd, room⟩ f_law_draw_m f_law_draw_k f_law_draw_b tk (.inl rfl) (h_sl (pv 0) (h_fz (e_int) (h_nil))))) (v_nil))) rfl rfl (by decide) rfl rfl) (ss_cons (Γ1 := [.io, .fz, .fz, .ow, .fz, .fz, .fz]) (s_setO (i := 3) (o_lst (a_nil)) nd rfl (by first | exact Or.inl rfl | exact Or.inr rfl) (by first | exact Or.inr rfl | exact Or.inl rfl) ⟨_, rfl, by decide⟩) (ss_cons (Γ1 := [.io, .fz, .fz, .ow, .fz, .fz, .fz]) (s_for (Γ1 := [.io, .fz, .fz, .ow, .fz, .fz, .fz]) (is := [4]) po rfl (i_rng1 (a_cons (e_v (pv 1)) (a_nil)) (y.free 41)) (g_name (i := 4) nd rfl (by first | exact Or.inl rfl | exact Or.inr rfl) (by first | exact Or.inr rfl | exact Or.inl rfl) ⟨_, rfl, by decide⟩) (ss_cons (Γ1 := [.io, .fz, .fz, .ow, .fz, .fz, .fz]) (s_set (i := 5) (e_lst (a_cons (e_pw (e_int) (e_r (e_int))) (a_cons (e_v (pv 2)) (a_cons (e_sub (e_v (pv 2)) (e_r (e_int))) (a_cons (e_mul (e_v (pv 2)) (e_r (e_add (e_int) (e_r (e_h (sh := [.sl 0, .fz]) (ks := [.io, .fz]) (MF := MF_f_law_draw) ⟨(f_law_draw_r base).mono (k := 2) (by decide), gd, room⟩ f_law_draw_m f_law_draw_k f_law_draw_b tk (.inl rfl) (h_sl (pv 0) (h_fz (e_int) (h_nil)))))))) (a_cons (e_h (sh := [.sl 0, .fz]) (ks := [.io, .fz]) (MF := MF_f_law_draw) ⟨(f_law_draw_r base).mono (k := 2) (by decide), gd, room⟩ f_law_draw_m f_law_draw_k f_law_draw_b tk (.inl rfl) (h_sl (pv 0) (h_fz (e_add (e_pw (e_int) (e_r (e_int))) (e_r (e_int))) (h_nil)))) (a_nil))))))) nd rfl (by first | exact Or.inl rfl | exact Or.inr rfl) (by first | exact Or.inr rfl | exact Or.inl rfl) ⟨_, rfl, by decide⟩) (ss_one (s_exp (e_mt F.slot_list_append F.type_list_append mt_append mk_append (pv 3) (a_cons (e_cb (b_min2 rfl) (a_consR (e_pw (e_int) (e_r (e_int))) (a_oneR (e_r (e_ix (e_add (e_v (pv 5)) (e_r (e_lst (a_cons (e_h (sh := [.sl 0, .fz]) (ks := [.io, .fz]) (MF := MF_f_law_draw) ⟨(f_law_draw_r base).mono (k := 2) (by decide), gd, room⟩ f_law_draw_m f_law_draw_k f_law_draw_b tk (.inl rfl) (h_sl (pv 0) (h_fz (e_int) (h_nil)))) (a_nil))))) (e_h (sh := [.sl 0, .fz]) (ks := [.io, .fz]) (MF := MF_f_law_draw) ⟨(f_law_draw_r base).mono (k := 2) (by decide), gd, room⟩ f_law_draw_m f_law_draw_k f_law_draw_b tk (.inl rfl) (h_sl (pv 0) (h_fz (e_int) (h_nil)))))))) (y.free 25)) (a_nil)) rfl (by decide) rfl))))) (ss_cons (Γ1 := [.io, .fz, .fz, .ow, .fz, .fz, .fz]) (s_set (i := 6) (e_h (sh := [.sl 0, .fz]) (ks := [.io, .fz]) (MF := MF_f_law_pairs) ⟨(f_law_pairs_r base).mono (k := 2) (by decide), gd, room⟩ f_law_pairs_m f_law_pairs_k f_law_pairs_b tk (.inl rfl) (h_sl (pv 0) (h_fz (e_v (pv 1)) (h_nil)))) nd rfl (by first | exact Or.inl rfl | exact Or.inr rfl) (by first | exact Or.inr rfl | exact Or.inl rfl) ⟨_, rfl, by decide⟩) (ss_one (s_ret (e_tup (a_cons (e_h (sh := [.sl 0, .fz]) (ks := [.io, .fz]) (MF := MF_f_law_calls) ⟨(f_law_calls_r base).mono (k := 2) (by decide), gd, room⟩ f_law_calls_m f_law_calls_k f_law_calls_b tk (.inl rfl) (h_sl (pv 0) (h_fz (e_v (pv 1)) (h_nil)))) (a_cons (e_ct (b_tuple rfl) (a_oneR (r_v (pv 3))) (y.free 0)) (a_cons (e_g (ks := [.fz, .fz]) (MF := MF_f_law_near) ⟨(f_law_near_r base).mono (k := 2) (by decide), gd, room⟩ f_law_near_m f_law_near_k f_law_near_b.d tk (.inl rfl) (a_cons (e_v (pv 1)) (a_cons (e_v (pv 6)) (a_nil))) rfl) (a_cons (e_v (pv 6)) (a_nil)))))))))))
end Law
namespace Law
open PySem PySem.Spec PyProof.Rows L2 G
/-! ### _law_right -/
noncomputable def m_f_law_right : MS := mRet (mAndV (mCallH [.sl 0, .fz] MF_f_law_one_right ((mV 0).bind fun _ => mCons (mCallH [.sl 0, .fz] MF_f_law_moor_small ((mV 0).bind fun _ => mCons (mC (.int 600)) (mNil))) (mNil))) (mCallH [.sl 0, .fz] MF_f_law_one_right ((mV 0).bind fun _ => mCons (mCallH [.sl 0] MF_f_law_moor_great ((mV 0).bind fun _ => mNil)) (mNil))))
noncomputable def MF_f_law_right : MFn := mFn 1 [.io] false m_f_law_right
theorem s_f_law_right : FnScope (["_law_hand_here"] : List PySem.Str) (["_law_hand_here"] : List PySem.Str) (d_f_law_right).scope := ⟨rfl, rfl, rfl, by decide +kernel, rfl, by decide +kernel, by decide +kernel⟩
theorem w_f_law_right {P : Program} {w : World} {K : Frag} {mg : PySem.Str → Option Value} {h : Heap} (y : Hy K mg h) : ∃ fd, FunD K (d_f_law_right).name (d_f_law_right).qual (d_f_law_right).params (d_f_law_right).body (d_f_law_right).scope ((d_f_law_right).dvs K) ((d_f_law_right).kws K) (He.fAd K ("_law_right", none)) fd ∧ BnF K fd (["_law_hand_here"] : List PySem.Str) ∧ PySem.W.keepIn K (.ref (He.fAd K ("_law_right", none))) = true ∧ mg "_law_right" = some (.ref (He.fAd K ("_law_right", none))) ∧ ∀ base : Heap, FnG P w K mg base (L2.CX P w) 8 (He.fAd K ("_law_right", none)) fd (["_law_hand_here"] : List PySem.Str) (SpG K (ct K) [.io] false MF_f_law_right) := by
  obtain ⟨fd_f_law_one_right, f_law_one_right_d, f_law_one_right_b, f_law_one_right_k, f_law_one_right_m, f_law_one_right_r⟩ := w_f_law_one_right (P := P) (w := w) y
  obtain ⟨fd_f_law_moor_great, f_law_moor_great_d, f_law_moor_great_b, f_law_moor_great_k, f_law_moor_great_m, f_law_moor_great_r⟩ := w_f_law_moor_great (P := P) (w := w) y
  obtain ⟨fd_f_law_moor_small, f_law_moor_small_d, f_law_moor_small_b, f_law_moor_small_k, f_law_moor_small_m, f_law_moor_small_r⟩ := w_f_law_moor_small (P := P) (w := w) y
  obtain ⟨fd, D⟩ := y.says.def_ 24
  refine ⟨fd, D, (bnF (D.bindsN fun _ _ _ _ _ _ us hl => match us, hl with | [_], _ => rfl)), D.kp, y.glo 48, fun base => fn_g (N := (["_law_hand_here"] : List PySem.Str)) (ps := (["_law_hand_here"] : List PySem.Str)) (ks := [.io]) (Γl := []) (Γ' := [.io]) (ro := false) (b := m_f_law_right) D s_f_law_right fun X S cdv A outer s H E hX hK hc hge hro tk gd room po => ?_⟩
  obtain ⟨⟨SK, Sct, F0, H0, ios⟩, Sge, SW, gc, gb, Sro⟩ := S
  have hK1 : SK = K := hK; have hc1 : Sct = ct K := hc; clear hK hc; subst hc1; subst hK1; cases hge; cases hro; subst hX
  have hu := room.units
  have nd : (["_law_hand_here"] : List PySem.Str).Nodup := by decide +kernel
  exact ss_one (s_ret (e_and (e_h (sh := [.sl 0, .fz]) (ks := [.io, .fz]) (MF := MF_f_law_one_right) ⟨(f_law_one_right_r base).mono (k := 7) (by decide), gd, room⟩ f_law_one_right_m f_law_one_right_k f_law_one_right_b tk (.inl rfl) (h_sl (pv 0) (h_fz (e_h (sh := [.sl 0, .fz]) (ks := [.io, .fz]) (MF := MF_f_law_moor_small) ⟨(f_law_moor_small_r base).mono (k := 7) (by decide), gd, room⟩ f_law_moor_small_m f_law_moor_small_k f_law_moor_small_b tk (.inl rfl) (h_sl (pv 0) (h_fz (e_int) (h_nil)))) (h_nil)))) (e_one (e_h (sh := [.sl 0, .fz]) (ks := [.io, .fz]) (MF := MF_f_law_one_right) ⟨(f_law_one_right_r base).mono (k := 7) (by decide), gd, room⟩ f_law_one_right_m f_law_one_right_k f_law_one_right_b tk (.inl rfl) (h_sl (pv 0) (h_fz (e_h (sh := [.sl 0]) (ks := [.io]) (MF := MF_f_law_moor_great) ⟨(f_law_moor_great_r base).mono (k := 7) (by decide), gd, room⟩ f_law_moor_great_m f_law_moor_great_k f_law_moor_great_b tk (.inl rfl) (h_sl (pv 0) (h_nil))) (h_nil)))))))
end Law
namespace Law
open PySem PySem.Spec PyProof.Rows L2 G
/-! ### _law_hand -/
noncomputable def m_f_law_hand : MS := (mSet 1 (mIf (mOr (mB (m2 dLt (mV 0) (mC (.int 0)))) (mB (m2 dGe (mV 0) (m2 dPw (mC (.int 10)) (mC (.int 18)))))) (mA dAbs (mCons (mV 0) mNil)) (mC (.int 0)))).sq (mRet (mLst (mCons (mV 1) (mCons (m2 dAdd (m2 dMul (m2 dMd (mV 0) (mC (.int 1000000207))) (mC (.int 9013))) (mC (.int 5021))) (mCons (mC (.int 0)) (mNil))))))
noncomputable def MF_f_law_hand : MFn := mFn 2 [.fz] true m_f_law_hand
theorem s_f_law_hand : FnScope (["_law_cell_here", "_law_digits"] : List PySem.Str) (["_law_cell_here"] : List PySem.Str) (d_f_law_hand).scope := ⟨rfl, rfl, rfl, by decide +kernel, rfl, by decide +kernel, by decide +kernel⟩
theorem w_f_law_hand {P : Program} {w : World} {K : Frag} {mg : PySem.Str → Option Value} {h : Heap} (y : Hy K mg h) : ∃ fd, FunD K (d_f_law_hand).name (d_f_law_hand).qual (d_f_law_hand).params (d_f_law_hand).body (d_f_law_hand).scope ((d_f_law_hand).dvs K) ((d_f_law_hand).kws K) (He.fAd K ("_law_hand", none)) fd ∧ BnF K fd (["_law_cell_here"] : List PySem.Str) ∧ PySem.W.keepIn K (.ref (He.fAd K ("_law_hand", none))) = true ∧ mg "_law_hand" = some (.ref (He.fAd K ("_law_hand", none))) ∧ ∀ base : Heap, FnG P w K mg base (L2.CX P w) 1 (He.fAd K ("_law_hand", none)) fd (["_law_cell_here"] : List PySem.Str) (SpG K (ct K) [.fz] true MF_f_law_hand) := by
  obtain ⟨fd, D⟩ := y.says.def_ 25
  refine ⟨fd, D, (bnF (D.bindsN fun _ _ _ _ _ _ us hl => match us, hl with | [_], _ => rfl)), D.kp, y.glo 50, fun base => fn_g (N := (["_law_cell_here", "_law_digits"] : List PySem.Str)) (ps := (["_law_cell_here"] : List PySem.Str)) (ks := [.fz]) (Γl := [.fz]) (Γ' := [.fz, .fz]) (ro := true) (b := m_f_law_hand) D s_f_law_hand fun X S cdv A outer s H E hX hK hc hge hro tk gd room po => ?_⟩
  obtain ⟨⟨SK, Sct, F0, H0, ios⟩, Sge, SW, gc, gb, Sro⟩ := S
  have hK1 : SK = K := hK; have hc1 : Sct = ct K := hc; clear hK hc; subst hc1; subst hK1; cases hge; cases hro; subst hX
  have hu := room.units
  have nd : (["_law_cell_here", "_law_digits"] : List PySem.Str).Nodup := by decide +kernel
  exact ss_cons (Γ1 := [.fz, .fz]) (s_set (i := 1) (e_if (t_w (w_or (t_cmp (c_lt hu rfl) (e_v (pv 0)) (e_r (e_int))) (w_or1 (t_cmp (c_ge hu rfl) (e_v (pv 0)) (e_r (e_pw (e_int) (e_r (e_int)))))))) (e_cb (b_abs) (a_oneR (e_r (e_v (pv 0)))) (y.free 49)) (e_int)) nd rfl (by first | exact Or.inl rfl | exact Or.inr rfl) (by first | exact Or.inr rfl | exact Or.inl rfl) ⟨_, rfl, by decide⟩) (ss_one (s_retO (o_lst (a_cons (e_v (pv 1)) (a_cons (e_add (e_mul (e_md (e_v (pv 0)) (e_r (e_int))) (e_r (e_int))) (e_r (e_int))) (a_cons (e_int) (a_nil)))))))
end Law
namespace Law
open PySem PySem.Spec PyProof.Rows L2 G
/-! ### _law_cell -/
noncomputable def b_f_law_cell_1 : MS := mSet 2 (m2 dMd (m2 dAdd (m2 dMul (mV 2) (mC (.int 70019))) (mV 3)) (mC (.int 1000000207)))
noncomputable def l_f_law_cell_1 : MS := mFor (mIt (mSl (mV 0) (M.ret none) (mPt (mC (.int 4))))) (gN 3) b_f_law_cell_1
noncomputable def m_f_law_cell : MS := (mIfS (mB (m2 dLt (mV 1) (mA dLen (mCons (mV 0) mNil)))) (mRet (m2 dIx (mV 0) (mV 1))) (mNx)).sq ((mSet 2 (m2 dMd (m2 dMul (mC (.int 30013)) (m2 dAdd (m2 dAdd (m2 dMul (mV 1) (mV 1)) (m2 dMul (mC (.int 13)) (mV 1))) (mC (.int 7)))) (mC (.int 1000000207)))).sq ((l_f_law_cell_1).sq (mRet (mV 2))))
noncomputable def MF_f_law_cell : MFn := mFn 4 [.fz, .fz] false m_f_law_cell
theorem s_f_law_cell : FnScope (["_law_script", "_law_k", "_law_state", "_law_cell_here"] : List PySem.Str) (["_law_script", "_law_k"] : List PySem.Str) (d_f_law_cell).scope := ⟨rfl, rfl, rfl, by decide +kernel, rfl, by decide +kernel, by decide +kernel⟩
theorem w_f_law_cell {P : Program} {w : World} {K : Frag} {mg : PySem.Str → Option Value} {h : Heap} (y : Hy K mg h) : ∃ fd, FunD K (d_f_law_cell).name (d_f_law_cell).qual (d_f_law_cell).params (d_f_law_cell).body (d_f_law_cell).scope ((d_f_law_cell).dvs K) ((d_f_law_cell).kws K) (He.fAd K ("_law_cell", none)) fd ∧ BnF K fd (["_law_script", "_law_k"] : List PySem.Str) ∧ PySem.W.keepIn K (.ref (He.fAd K ("_law_cell", none))) = true ∧ mg "_law_cell" = some (.ref (He.fAd K ("_law_cell", none))) ∧ ∀ base : Heap, FnG P w K mg base (L2.CX P w) 1 (He.fAd K ("_law_cell", none)) fd (["_law_script", "_law_k"] : List PySem.Str) (SpG K (ct K) [.fz, .fz] false MF_f_law_cell) := by
  obtain ⟨fd, D⟩ := y.says.def_ 26
  refine ⟨fd, D, (bnF (D.bindsN fun _ _ _ _ _ _ us hl => match us, hl with | [_, _], _ => rfl)), D.kp, y.glo 51, fun base => fn_g (N := (["_law_script", "_law_k", "_law_state", "_law_cell_here"] : List PySem.Str)) (ps := (["_law_script", "_law_k"] : List PySem.Str)) (ks := [.fz, .fz]) (Γl := [.fz, .fz]) (Γ' := [.fz, .fz, .fz, .fz]) (ro := false) (b := m_f_law_cell) D s_f_law_cell fun X S cdv A outer s H E hX hK hc hge hro tk gd room po => ?_⟩
  obtain ⟨⟨SK, Sct, F0, H0, ios⟩, Sge, SW, gc, gb, Sro⟩ := S
  have hK1 : SK = K := hK; have hc1 : Sct = ct K := hc; clear hK hc; subst hc1; subst hK1; cases hge; cases hro; subst hX
  have hu := room.units
  have nd : (["_law_script", "_law_k", "_law_state", "_law_cell_here"] : List PySem.Str).Nodup := by decide +kernel
  exact ss_cons (Γ1 := [.fz, .fz, .fz, .fz]) (s_if (t_cmp (c_lt hu rfl) (e_v (pv 1)) (e_r (e_cb (b_len rfl) (a_oneR (e_r (e_v (pv 0)))) (y.free 3)))) (ss_one (s_ret (e_ix (e_v (pv 0)) (e_v (pv 1))))) (ss_nil)) (ss_cons (Γ1 := [.fz, .fz, .fz, .fz]) (s_set (i := 2) (e_md (e_mul (e_int) (e_r (e_add (e_add (e_mul (e_v (pv 1)) (e_r (e_v (pv 1)))) (e_r (e_mul (e_int) (e_r (e_v (pv 1)))))) (e_r (e_int))))) (e_r (e_int))) nd rfl (by first | exact Or.inl rfl | exact Or.inr rfl) (by first | exact Or.inr rfl | exact Or.inl rfl) ⟨_, rfl, by decide⟩) (ss_cons (Γ1 := [.fz, .fz, .fz, .fz]) (s_for (Γ1 := [.fz, .fz, .fz, .fz]) (is := [3]) po rfl (i_any (e_sl (e_v (pv 0)) (p_none) (p_some (e_int)))) (g_name (i := 3) nd rfl (by first | exact Or.inl rfl | exact Or.inr rfl) (by first | exact Or.inr rfl | exact Or.inl rfl) ⟨_, rfl, by decide⟩) (ss_one (s_set (i := 2) (e_md (e_add (e_mul (e_v (pv 2)) (e_r (e_int))) (e_r (e_v (pv 3)))) (e_r (e_int))) nd rfl (by first | exact Or.inl rfl | exact Or.inr rfl) (by first | exact Or.inr rfl | exact Or.inl rfl) ⟨_, rfl, by decide⟩))) (ss_one (s_ret (e_v (pv 2))))))
end Law
namespace Law
open PySem PySem.Spec PyProof.Rows L2 G
/-! ### law -/
noncomputable def c_f_law_1 : M D := mLc [1] (mIt (mLst (mCons (mTup (mNil)) (mCons (mTup (mCons (mC (.int 0)) (mNil))) (mCons (mLst (mNil)) (mCons (mC .non) (mCons (mTup (mCons (mTup (mNil)) (mNil))) (mCons (mC (.str "")) (mCons (mDk) (mNil)))))))))) (gN 1) (mYes) (mCkd 3 0 3 (fun ds _ => ds) MF_f_law_told_right (mCons (mMk 0 0 0 2 gD_f_Moor_init_b0 MF_f_Moor_init (mNil) (mNil)) (mCons (mTup (mNil)) (mCons (mV 1) (mNil)))) (mNil))
noncomputable def c_f_law_2 : M D := mLc [2] (mRg1 (mCons (mA dMax2 (mCons (mC (.int 2)) (mCons (mA dMin2 (mCons (mA dLen (mCons (mV 0) mNil)) (mCons (mC (.int 8)) mNil))) mNil))) (mNil))) (gN 2) (mYes) (mCallH [.tm] MF_f_law_right (mCons (mCallH [.fz] MF_f_law_hand (mCons (mCkd 2 0 2 (fun ds _ => ds) MF_f_law_cell (mCons (mV 0) (mCons (mV 2) (mNil))) (mNil)) (mNil))) (mNil)))
noncomputable def m_f_law : MS := (mIfS (mNot (mT (mA dAll (mCons (c_f_law_1) mNil)))) (mRet (mC (.bl false))) (mNx)).sq (mRet (mA dAll (mCons (c_f_law_2) mNil)))
noncomputable def MF_f_law : MFn := mFn 3 [.fz] false m_f_law
theorem s_f_law : FnScope (["_law_script", "_law_odd", "_law_k"] : List PySem.Str) (["_law_script"] : List PySem.Str) (d_f_law).scope := ⟨rfl, rfl, rfl, by decide +kernel, rfl, by decide +kernel, by decide +kernel⟩
theorem w_f_law {P : Program} {w : World} {K : Frag} {mg : PySem.Str → Option Value} {h : Heap} (y : Hy K mg h) : ∃ fd, FunD K (d_f_law).name (d_f_law).qual (d_f_law).params (d_f_law).body (d_f_law).scope ((d_f_law).dvs K) ((d_f_law).kws K) (He.fAd K ("law", none)) fd ∧ BnF K fd (["_law_script"] : List PySem.Str) ∧ PySem.W.keepIn K (.ref (He.fAd K ("law", none))) = true ∧ mg "law" = some (.ref (He.fAd K ("law", none))) ∧ ∀ base : Heap, FnG P w K mg base (L2.CX P w) 9 (He.fAd K ("law", none)) fd (["_law_script"] : List PySem.Str) (SpG K (ct K) [.fz] false MF_f_law) := by
  obtain ⟨fd_f_law_told_right, f_law_told_right_d, f_law_told_right_b, f_law_told_right_k, f_law_told_right_m, f_law_told_right_r⟩ := w_f_law_told_right (P := P) (w := w) y
  obtain ⟨fd_f_Moor_init, f_Moor_init_d, f_Moor_init_b, f_Moor_init_k, f_Moor_init_r⟩ := w_f_Moor_init (P := P) (w := w) y
  have f_Moor_init_b1_rods := bn_f_Moor_init_b1_rods y f_Moor_init_d
  have f_Moor_init_b0 := bn_f_Moor_init_b0 y f_Moor_init_d
  obtain ⟨fd_f_law_right, f_law_right_d, f_law_right_b, f_law_right_k, f_law_right_m, f_law_right_r⟩ := w_f_law_right (P := P) (w := w) y
  obtain ⟨fd_f_law_hand, f_law_hand_d, f_law_hand_b, f_law_hand_k, f_law_hand_m, f_law_hand_r⟩ := w_f_law_hand (P := P) (w := w) y
  obtain ⟨fd_f_law_cell, f_law_cell_d, f_law_cell_b, f_law_cell_k, f_law_cell_m, f_law_cell_r⟩ := w_f_law_cell (P := P) (w := w) y
  obtain ⟨fd, D⟩ := y.says.def_ 27
  refine ⟨fd, D, (bnF (D.bindsN fun _ _ _ _ _ _ us hl => match us, hl with | [_], _ => rfl)), D.kp, y.glo 52, fun base => fn_g (N := (["_law_script", "_law_odd", "_law_k"] : List PySem.Str)) (ps := (["_law_script"] : List PySem.Str)) (ks := [.fz]) (Γl := [.fz, .fz]) (Γ' := [.fz, .fz, .fz]) (ro := false) (b := m_f_law) D s_f_law fun X S cdv A outer s H E hX hK hc hge hro tk gd room po => ?_⟩
  obtain ⟨⟨SK, Sct, F0, H0, ios⟩, Sge, SW, gc, gb, Sro⟩ := S
  have hK1 : SK = K := hK; have hc1 : Sct = ct K := hc; clear hK hc; subst hc1; subst hK1; cases hge; cases hro; subst hX
  have hu := room.units
  have nd : (["_law_script", "_law_odd", "_law_k"] : List PySem.Str).Nodup := by decide +kernel
  exact ss_cons (Γ1 := [.fz, .fz, .fz]) (s_if (t_not (t_tru (e_r (e_cb (b_all rfl rfl) (a_oneR (e_r (e_o (o_lc (own := [("_law_odd", 1)]) (is := [1]) rfl nd (i_any (e_lst (a_cons (e_tup (a_nil)) (a_cons (e_tup (a_cons (e_int) (a_nil))) (a_cons (e_lst (a_nil)) (a_cons (e_non) (a_cons (e_tup (a_cons (e_tup (a_nil)) (a_nil))) (a_cons (e_str) (a_cons (e_dk) (a_nil)))))))))) rfl (fun _ _ _ _ _ => g_name (i := 1) nd rfl (by first | exact Or.inl rfl | exact Or.inr rfl) (by first | exact Or.inr rfl | exact Or.inl rfl) ⟨_, rfl, by decide⟩) (fun _ _ _ _ _ => ts_nil) (fun _ _ _ _ _ => e_g (ks := [.fz, .fz, .fz]) (MF := MF_f_law_told_right) ⟨(f_law_told_right_r base).mono (k := 8) (by decide), gd, room⟩ f_law_told_right_m f_law_told_right_k f_law_told_right_b.d tk_no (.inl rfl) (a_cons (e_o (o_mk0 (c := 0) (ks := [.fz, .fz]) (MF := MF_f_Moor_init) ⟨y.mkr 38, (f_Moor_init_r base).mono (k := 7) (by decide), gd, room⟩ (y.glo 29) f_Moor_init_b0 tk_no (.inl rfl) rfl)) (a_cons (e_tup (a_nil)) (a_cons (e_v (pv 1)) (a_nil)))) rfl))))) (y.free 6))) rfl)) (ss_one (s_ret (e_bl))) (ss_nil)) (ss_one (s_ret (e_cb (b_all rfl rfl) (a_oneR (e_r (e_o (o_lc (own := [("_law_k", 2)]) (is := [2]) rfl nd (i_rng1 (a_cons (e_cb (b_max2 rfl) (a_consR (e_int) (a_oneR (e_r (e_cb (b_min2 rfl) (a_consR (e_cb (b_len rfl) (a_oneR (e_r (e_v (pv 0)))) (y.free 3)) (a_oneR (e_r (e_int)))) (y.free 25))))) (y.free 24)) (a_nil)) (y.free 41)) rfl (fun _ _ _ _ _ => g_name (i := 2) nd rfl (by first | exact Or.inl rfl | exact Or.inr rfl) (by first | exact Or.inr rfl | exact Or.inl rfl) ⟨_, rfl, by decide⟩) (fun _ _ _ _ _ => ts_nil) (fun _ _ _ _ _ => e_h (sh := [.tm]) (ks := [.io]) (MF := MF_f_law_right) ⟨(f_law_right_r base).mono (k := 8) (by decide), gd, room⟩ f_law_right_m f_law_right_k f_law_right_b tk_no (.inl rfl) (h_tm (o_h (sh := [.fz]) (ks := [.fz]) (MF := MF_f_law_hand) ⟨(f_law_hand_r base).mono (k := 8) (by decide), gd, room⟩ f_law_hand_m f_law_hand_k f_law_hand_b tk_no (.inl rfl) (h_fz (e_g (ks := [.fz, .fz]) (MF := MF_f_law_cell) ⟨(f_law_cell_r base).mono (k := 8) (by decide), gd, room⟩ f_law_cell_m f_law_cell_k f_law_cell_b.d tk_no (.inl rfl) (a_cons (e_v (pv 0)) (a_cons (e_v (pv 2)) (a_nil))) rfl) (h_nil))) (h_nil))))))) (y.free 6))))
end Law
namespace Law
open PySem PySem.Spec PyProof.Rows L2 G
noncomputable def t_is_name (thing1 : D) : O (Bool) :=
  (isK .str thing1).bind fun v2 =>
  (if (!v2) = true then .ok true else ((opI (dLen [thing1])).bind fun v5 =>
  (if decide ((1 : Int) ≤ v5) = true then O.ok (decide (v5 ≤ (6 : Int))) else .ok false).bind fun v6 =>
  O.ok (!v6))).bind fun v7 =>
  if v7 = true then
  (O.ok false)
  else
  ((itD thing1).bind fun r8 =>
  (lcO (fun (x9 : D) => (opB (dIn x9 (D.str ("abcdefghijklmnopqrstuvwxyz" : Str)))).bind fun v11 =>
  O.ok v11) r8).bind fun v12 =>
  O.ok (v12.all id))
theorem q_is_name (thing1 : D) : FSm MF_f_is_name [eD thing1] (fun (b : Bool) => D.bl b) (fun (_ : Bool) => []) (t_is_name thing1) := FSm.mk (show Sm (fun _ => True) (RT (fun (b : Bool) => D.bl b) (fun (_ : Bool) => []) []) (m_f_is_name [some (eD thing1), none]) _ from by
  refine Sm.fin ?_
  refine Sm.sq ?_
  refine Sm.ifc ?_
  refine Sm.mOr ?_
  refine Sm.mNot ?_
  refine Sm.mT ?_
  refine Sm.m1 ?_
  refine Sm.pu (rfl) ?_
  refine Sm.op (os_isK _ _) fun v2 => ?_
  refine Sm.opp rfl ?_
  refine Sm.bd (f := fun z => z) (g := fun _ => [some (eD thing1), none]) ?_ fun v7 => ?_
  · refine Sm.orB (fun _ => ?_) rfl
    refine Sm.ex ?_
    refine Sm.mNot ?_
    refine Sm.mB ?_
    refine Sm.mCh ?_
    refine Sm.pu (rfl) ?_
    refine Sm.mA ?_
    refine Sm.mCons ?_
    refine Sm.pu (rfl) ?_
    refine Sm.pu rfl ?_
    refine Sm.op os_I fun v5 => ?_
    refine Sm.opp (le_ii _ _) ?_
    refine Sm.bd (f := D.bl) (g := fun _ => [some (eD thing1), none]) ?_ fun v6 => ?_
    · refine Sm.chK (fun _ => ?_) rfl
      refine Sm.pu (rfl) ?_
      refine Sm.ex ?_
      refine Sm.opp (le_ii _ _) ?_
      exact Sm.done rfl
    · refine Sm.opp rfl ?_
      exact Sm.done rfl
  · refine Sm.ifS ?_ ?_
    · intro _
      refine Sm.ret ?_
      refine Sm.pu (rfl) ?_
      exact Sm.done (b := false) ⟨_, rfl, rfl⟩
    · intro _
      refine Sm.nx ?_
      refine Sm.ret ?_
      refine Sm.mA ?_
      refine Sm.mCons ?_
      refine Sm.mLc ?_
      refine Sm.mIt ?_
      refine Sm.pu (rfl) ?_
      refine Sm.op (os_itD _) fun r8 => ?_
      refine Sm.lcO (ex := eD) (ey := D.bl) (ρ1 := fun (x9 : D) => [some (eD thing1), some (eD x9)]) (f := fun (x9 : D) => (opB (dIn x9 (D.str ("abcdefghijklmnopqrstuvwxyz" : Str)))).bind fun v11 =>
        O.ok v11) (fun x9 => rfl) (fun x9 => rfl) ?_ _ fun v12 => ?_
      · intro x9
        refine Sm.ex ?_
        refine Sm.m2 ?_
        refine Sm.pu (rfl) ?_
        refine Sm.pu (rfl) ?_
        refine Sm.op os_B fun v11 => ?_
        exact Sm.done rfl
      · refine Sm.pu rfl ?_
        refine Sm.opp (all_l _) ?_
        exact Sm.done (b := (v12.all id)) ⟨_, rfl, rfl⟩)
end Law
namespace Law
open PySem PySem.Spec PyProof.Rows L2 G
noncomputable def t_is_whole (thing1 : D) : O (Bool) :=
  (isK .int thing1).bind fun v2 =>
  (if v2 = true then ((isK .bool thing1).bind fun v4 =>
  O.ok (!v4)) else .ok false).bind fun v5 =>
  O.ok v5
theorem q_is_whole (thing1 : D) : FSm MF_f_is_whole [eD thing1] (fun (b : Bool) => D.bl b) (fun (_ : Bool) => []) (t_is_whole thing1) := FSm.mk (show Sm (fun _ => True) (RT (fun (b : Bool) => D.bl b) (fun (_ : Bool) => []) []) (m_f_is_whole [some (eD thing1)]) _ from by
  refine Sm.fin ?_
  refine Sm.ret ?_
  refine Sm.mAndV ?_
  refine Sm.m1 ?_
  refine Sm.pu (rfl) ?_
  refine Sm.op (os_isK _ _) fun v2 => ?_
  refine Sm.bd (f := D.bl) (g := fun _ => [some (eD thing1)]) ?_ fun v5 => ?_
  · refine Sm.andK (fun _ => ?_) rfl
    refine Sm.ex ?_
    refine Sm.m1 ?_
    refine Sm.m1 ?_
    refine Sm.pu (rfl) ?_
    refine Sm.op (os_isK _ _) fun v4 => ?_
    refine Sm.opp (not_b _) ?_
    exact Sm.done rfl
  · exact Sm.done (b := v5) ⟨_, rfl, rfl⟩)
end Law
namespace Law
open PySem PySem.Spec PyProof.Rows L2 G
noncomputable def t_is_number (thing1 : D) (most2 : Int) : O (Bool) :=
  (t_is_whole thing1).bind fun v3 =>
  (if v3 = true then ((opB (dLe (D.int (0 : Int)) thing1)).bind fun v7 =>
  (if v7 = true then opB (dLe thing1 (D.int most2)) else .ok false).bind fun v9 =>
  O.ok v9) else .ok false).bind fun v10 =>
  O.ok v10
theorem q_is_number (thing1 : D) (most2 : Int) : FSm MF_f_is_number [eD thing1, D.int most2] (fun (b : Bool) => D.bl b) (fun (_ : Bool) => []) (t_is_number thing1 most2) := FSm.mk (show Sm (fun _ => True) (RT (fun (b : Bool) => D.bl b) (fun (_ : Bool) => []) []) (m_f_is_number [some (eD thing1), some (D.int most2)]) _ from by
  refine Sm.fin ?_
  refine Sm.ret ?_
  refine Sm.mAndV ?_
  refine Sm.mCkd ?_
  refine Sm.mCons ?_
  refine Sm.pu (rfl) ?_
  refine Sm.pu rfl ?_
  refine Sm.pu rfl ?_
  refine Sm.ckK (q_is_whole thing1) ⟨rfl, rfl, rfl⟩ rfl trivial fun v3 => ?_
  refine Sm.bd (f := D.bl) (g := fun _ => [some (eD thing1), some (D.int most2)]) ?_ fun v10 => ?_
  · refine Sm.andK (fun _ => ?_) rfl
    refine Sm.ex ?_
    refine Sm.mCh ?_
    refine Sm.pu (rfl) ?_
    refine Sm.pu (rfl) ?_
    refine Sm.op os_B fun v7 => ?_
    refine Sm.bd (f := D.bl) (g := fun _ => [some (eD thing1), some (D.int most2)]) ?_ fun v9 => ?_
    · refine Sm.chK (fun _ => ?_) rfl
      refine Sm.pu (rfl) ?_
      refine Sm.ex ?_
      exact Sm.opE os_B
    · exact Sm.done rfl
  · exact Sm.done (b := v10) ⟨_, rfl, rfl⟩)
end Law
namespace Law
open PySem PySem.Spec PyProof.Rows L2 G
noncomputable def t_is_gauge (thing1 : D) : O (Bool) :=
  (isK .tuple thing1).bind fun v2 =>
  (if v2 = true then ((opI (dLen [thing1])).bind fun v19 =>
  (if decide (v19 = (2 : Int)) = true then ((opD (dIx thing1 (D.int (0 : Int)))).bind fun v27 =>
  (t_is_name v27).bind fun v28 =>
  (if v28 = true then ((opD (dIx thing1 (D.int (1 : Int)))).bind fun v31 =>
  (t_is_number v31 (1000000000 : Int)).bind fun v32 =>
  O.ok v32) else .ok false).bind fun v33 =>
  O.ok v33) else .ok false).bind fun v34 =>
  O.ok v34) else .ok false).bind fun v35 =>
  O.ok v35
theorem q_is_gauge (thing1 : D) : FSm MF_f_is_gauge [eD thing1] (fun (b : Bool) => D.bl b) (fun (_ : Bool) => []) (t_is_gauge thing1) := FSm.mk (show Sm (fun _ => True) (RT (fun (b : Bool) => D.bl b) (fun (_ : Bool) => []) []) (m_f_is_gauge [some (eD thing1)]) _ from by
  refine Sm.fin ?_
  refine Sm.ret ?_
  refine Sm.mAndV ?_
  refine Sm.m1 ?_
  refine Sm.pu (rfl) ?_
  refine Sm.op (os_isK _ _) fun v2 => ?_
  refine Sm.bd (f := D.bl) (g := fun _ => [some (eD thing1)]) ?_ fun v35 => ?_
  · refine Sm.andK (fun _ => ?_) rfl
    refine Sm.ex ?_
    refine Sm.mAndV ?_
    refine Sm.m2 ?_
    refine Sm.mA ?_
    refine Sm.mCons ?_
    refine Sm.pu (rfl) ?_
    refine Sm.pu rfl ?_
    refine Sm.op os_I fun v19 => ?_
    refine Sm.pu (rfl) ?_
    refine Sm.opp (eq_ii _ _) ?_
    refine Sm.bd (f := D.bl) (g := fun _ => [some (eD thing1)]) ?_ fun v34 => ?_
    · refine Sm.andK (fun _ => ?_) rfl
      refine Sm.ex ?_
      refine Sm.mAndV ?_
      refine Sm.mCkd ?_
      refine Sm.mCons ?_
      refine Sm.m2 ?_
      refine Sm.pu (rfl) ?_
      refine Sm.pu (rfl) ?_
      refine Sm.op os_D fun v27 => ?_
      refine Sm.pu rfl ?_
      refine Sm.pu rfl ?_
      refine Sm.ckK (q_is_name v27) ⟨rfl, rfl, rfl⟩ rfl trivial fun v28 => ?_
      refine Sm.bd (f := D.bl) (g := fun _ => [some (eD thing1)]) ?_ fun v33 => ?_
      · refine Sm.andK (fun _ => ?_) rfl
        refine Sm.ex ?_
        refine Sm.mCkd ?_
        refine Sm.mCons ?_
        refine Sm.m2 ?_
        refine Sm.pu (rfl) ?_
        refine Sm.pu (rfl) ?_
        refine Sm.op os_D fun v31 => ?_
        refine Sm.mCons ?_
        refine Sm.pu (rfl) ?_
        refine Sm.pu rfl ?_
        refine Sm.pu rfl ?_
        refine Sm.ckK (q_is_number v31 (1000000000 : Int)) ⟨rfl, rfl, rfl⟩ rfl trivial fun v32 => ?_
        exact Sm.done rfl
      · exact Sm.done rfl
    · exact Sm.done rfl
  · exact Sm.done (b := v35) ⟨_, rfl, rfl⟩)
end Law
namespace Law
open PySem PySem.Spec PyProof.Rows L2 G
noncomputable def t_odd_gauge (gauges1 : D) : O ((Option Int)) :=
  (ofO ((dSq gauges1).map enL)).bind fun r2 =>
  (forR (ρ := (Option Int)) (fun (x18 : Int × D) (last19 : D) =>
  (t_is_gauge x18.2).bind fun v20 =>
  (if (!v20) = true then .ok true else ((opD (dIx x18.2 (D.int (0 : Int)))).bind fun v23 =>
  (opB (dLe v23 last19)).bind fun v24 =>
  O.ok v24)).bind fun v25 =>
  if v25 = true then
  (O.ok (Stp.rt (some x18.1)))
  else
  ((opD (dIx x18.2 (D.int (0 : Int)))).bind fun last26 =>
  O.ok (Stp.on last26))) r2 (D.str ("" : Str))).bind fun z => match z with
  | .inl v26 => O.ok v26
  | .inr last17 =>
  O.ok none
theorem q_odd_gauge (gauges1 : D) : FSm MF_f_odd_gauge [eD gauges1] (fun (b : (Option Int)) => (eO D.int) b) (fun (_ : (Option Int)) => []) (t_odd_gauge gauges1) := FSm.mk (show Sm (fun _ => True) (RT (fun (b : (Option Int)) => (eO D.int) b) (fun (_ : (Option Int)) => []) []) (m_f_odd_gauge [some (eD gauges1), none, none, none]) _ from by
  refine Sm.fin ?_
  refine Sm.sq ?_
  refine Sm.set ?_
  refine Sm.pu (rfl) ?_
  refine Sm.sq ?_
  refine Sm.for ?_
  refine Sm.mEn ?_
  refine Sm.mCons ?_
  refine Sm.pu (rfl) ?_
  refine Sm.pu rfl ?_
  refine Sm.op (os_en (sqD_D _)) fun r2 => ?_
  refine Sm.bR (I := fun (z : D) (y : (Option D) × (Option D)) => [some (eD gauges1), some (eD z), y.1, y.2]) (Q := (RT (fun (b : (Option Int)) => (eO D.int) b) (fun (_ : (Option Int)) => []) [])) ?_ ?_ ?_
  · refine Sm.forR (e := (eP D.int eD)) (I := fun (z : D) (y : (Option D) × (Option D)) => [some (eD gauges1), some (eD z), y.1, y.2]) (Q := (RT (fun (b : (Option Int)) => (eO D.int) b) (fun (_ : (Option Int)) => []) [])) ?_ _ (D.str ("" : Str)) (none, none)
    · intro x18
      intro last19
      intro j2_3
      refine Sm.gp rfl ?_
      refine Sm.fin ?_
      refine Sm.sq ?_
      refine Sm.ifc ?_
      refine Sm.mOr ?_
      refine Sm.mNot ?_
      refine Sm.mT ?_
      refine Sm.mCkd ?_
      refine Sm.mCons ?_
      refine Sm.pu (rfl) ?_
      refine Sm.pu rfl ?_
      refine Sm.pu rfl ?_
      refine Sm.ckK (q_is_gauge x18.2) ⟨rfl, rfl, rfl⟩ rfl trivial fun v20 => ?_
      refine Sm.opp rfl ?_
      refine Sm.bd (f := fun z => z) (g := fun _ => [some (eD gauges1), some (eD last19), some (D.int x18.1), some (eD x18.2)]) ?_ fun v25 => ?_
      · refine Sm.orB (fun _ => ?_) rfl
        refine Sm.ex ?_
        refine Sm.mB ?_
        refine Sm.m2 ?_
        refine Sm.m2 ?_
        refine Sm.pu (rfl) ?_
        refine Sm.pu (rfl) ?_
        refine Sm.op os_D fun v23 => ?_
        refine Sm.pu (rfl) ?_
        refine Sm.op os_B fun v24 => ?_
        refine Sm.opp rfl ?_
        exact Sm.done rfl
      · refine Sm.ifS ?_ ?_
        · intro _
          refine Sm.ret ?_
          refine Sm.pu (rfl) ?_
          exact Sm.done (b := (Stp.rt (some x18.1))) (RT.rt ⟨_, rfl, rfl⟩)
        · intro _
          refine Sm.nx ?_
          refine Sm.set ?_
          refine Sm.m2 ?_
          refine Sm.pu (rfl) ?_
          refine Sm.pu (rfl) ?_
          refine Sm.op os_D fun last26 => ?_
          exact Sm.done (b := (Stp.on last26)) ⟨⟨_, _⟩, .inl rfl⟩
  · intro v26 hv
    exact Sm.done hv
  · intro last17
    intro j2_3
    refine Sm.ret ?_
    refine Sm.pu (rfl) ?_
    exact Sm.done (b := none) ⟨_, rfl, rfl⟩)
end Law
namespace Law
open PySem PySem.Spec PyProof.Rows L2 G
noncomputable def t_is_rod (thing1 : D) (names2 : List Str) : O (Bool) :=
  (isK .tuple thing1).bind fun v3 =>
  (if (!v3) = true then .ok true else ((opI (dLen [thing1])).bind fun v5 =>
  O.ok (!decide (v5 = (2 : Int))))).bind fun v6 =>
  if v6 = true then
  (O.ok false)
  else
  ((itD thing1).bind fun r7 =>
  (lcO (fun (x8 : D) => (t_is_name x8).bind fun v13 =>
  (if v13 = true then ((opB (dIn x8 ((eL D.str) names2))).bind fun v15 =>
  O.ok v15) else .ok false).bind fun v16 =>
  O.ok v16) r7).bind fun v17 =>
  (if (v17.all id) = true then ((opD (dIx thing1 (D.int (0 : Int)))).bind fun v21 =>
  (opD (dIx thing1 (D.int (1 : Int)))).bind fun v22 =>
  (opB (dLt v21 v22)).bind fun v23 =>
  O.ok v23) else .ok false).bind fun v24 =>
  O.ok v24)
theorem q_is_rod (thing1 : D) (names2 : List Str) : FSm MF_f_is_rod [eD thing1, (eL D.str) names2] (fun (b : Bool) => D.bl b) (fun (_ : Bool) => []) (t_is_rod thing1 names2) := FSm.mk (show Sm (fun _ => True) (RT (fun (b : Bool) => D.bl b) (fun (_ : Bool) => []) []) (m_f_is_rod [some (eD thing1), some ((eL D.str) names2), none]) _ from by
  refine Sm.fin ?_
  refine Sm.sq ?_
  refine Sm.ifc ?_
  refine Sm.mOr ?_
  refine Sm.mNot ?_
  refine Sm.mT ?_
  refine Sm.m1 ?_
  refine Sm.pu (rfl) ?_
  refine Sm.op (os_isK _ _) fun v3 => ?_
  refine Sm.opp rfl ?_
  refine Sm.bd (f := fun z => z) (g := fun _ => [some (eD thing1), some ((eL D.str) names2), none]) ?_ fun v6 => ?_
  · refine Sm.orB (fun _ => ?_) rfl
    refine Sm.ex ?_
    refine Sm.mB ?_
    refine Sm.m2 ?_
    refine Sm.mA ?_
    refine Sm.mCons ?_
    refine Sm.pu (rfl) ?_
    refine Sm.pu rfl ?_
    refine Sm.op os_I fun v5 => ?_
    refine Sm.pu (rfl) ?_
    refine Sm.opp (ne_ii _ _) ?_
    refine Sm.opp rfl ?_
    exact Sm.done rfl
  · refine Sm.ifS ?_ ?_
    · intro _
      refine Sm.ret ?_
      refine Sm.pu (rfl) ?_
      exact Sm.done (b := false) ⟨_, rfl, rfl⟩
    · intro _
      refine Sm.nx ?_
      refine Sm.ret ?_
      refine Sm.mAndV ?_
      refine Sm.mA ?_
      refine Sm.mCons ?_
      refine Sm.mLc ?_
      refine Sm.mIt ?_
      refine Sm.pu (rfl) ?_
      refine Sm.op (os_itD _) fun r7 => ?_
      refine Sm.lcO (ex := eD) (ey := D.bl) (ρ1 := fun (x8 : D) => [some (eD thing1), some ((eL D.str) names2), some (eD x8)]) (f := fun (x8 : D) => (t_is_name x8).bind fun v13 =>
        (if v13 = true then ((opB (dIn x8 ((eL D.str) names2))).bind fun v15 =>
        O.ok v15) else .ok false).bind fun v16 =>
        O.ok v16) (fun x8 => rfl) (fun x8 => rfl) ?_ _ fun v17 => ?_
      · intro x8
        refine Sm.ex ?_
        refine Sm.mAndV ?_
        refine Sm.mCkd ?_
        refine Sm.mCons ?_
        refine Sm.pu (rfl) ?_
        refine Sm.pu rfl ?_
        refine Sm.pu rfl ?_
        refine Sm.ckK (q_is_name x8) ⟨rfl, rfl, rfl⟩ rfl trivial fun v13 => ?_
        refine Sm.bd (f := D.bl) (g := fun _ => [some (eD thing1), some ((eL D.str) names2), some (eD x8)]) ?_ fun v16 => ?_
        · refine Sm.andK (fun _ => ?_) rfl
          refine Sm.ex ?_
          refine Sm.m2 ?_
          refine Sm.pu (rfl) ?_
          refine Sm.pu (rfl) ?_
          refine Sm.op os_B fun v15 => ?_
          exact Sm.done rfl
        · exact Sm.done rfl
      · refine Sm.pu rfl ?_
        refine Sm.opp (all_l _) ?_
        refine Sm.bd (f := D.bl) (g := fun _ => [some (eD thing1), some ((eL D.str) names2), none]) ?_ fun v24 => ?_
        · refine Sm.andK (fun _ => ?_) rfl
          refine Sm.ex ?_
          refine Sm.m2 ?_
          refine Sm.m2 ?_
          refine Sm.pu (rfl) ?_
          refine Sm.pu (rfl) ?_
          refine Sm.op os_D fun v21 => ?_
          refine Sm.m2 ?_
          refine Sm.pu (rfl) ?_
          refine Sm.pu (rfl) ?_
          refine Sm.op os_D fun v22 => ?_
          refine Sm.op os_B fun v23 => ?_
          exact Sm.done rfl
        · exact Sm.done (b := v24) ⟨_, rfl, rfl⟩)
end Law
namespace Law
open PySem PySem.Spec PyProof.Rows L2 G
noncomputable def t_odd_rod (rods1 : D) (names2 : List Str) : O ((Option Int)) :=
  (ofO ((dSq rods1).map enL)).bind fun r3 =>
  (forR (ρ := (Option Int)) (fun (x9 : Int × D) (last10 : D) =>
  (t_is_rod x9.2 names2).bind fun v11 =>
  (if (!v11) = true then .ok true else ((opB (dLe x9.2 last10)).bind fun v13 =>
  O.ok v13)).bind fun v14 =>
  if v14 = true then
  (O.ok (Stp.rt (some x9.1)))
  else
  (O.ok (Stp.on x9.2))) r3 ((eP D.str D.str) (("" : Str), ("" : Str)))).bind fun z => match z with
  | .inl v14 => O.ok v14
  | .inr last8 =>
  O.ok none
theorem q_odd_rod (rods1 : D) (names2 : List Str) : FSm MF_f_odd_rod [eD rods1, (eL D.str) names2] (fun (b : (Option Int)) => (eO D.int) b) (fun (_ : (Option Int)) => []) (t_odd_rod rods1 names2) := FSm.mk (show Sm (fun _ => True) (RT (fun (b : (Option Int)) => (eO D.int) b) (fun (_ : (Option Int)) => []) []) (m_f_odd_rod [some (eD rods1), some ((eL D.str) names2), none, none, none]) _ from by
  refine Sm.fin ?_
  refine Sm.sq ?_
  refine Sm.set ?_
  refine Sm.pu (tup_ok (cons_ok (rfl) (cons_ok (rfl) (nil_ok))) (show (2 : Nat) ≤ sizeLine by decide)) ?_
  refine Sm.sq ?_
  refine Sm.for ?_
  refine Sm.mEn ?_
  refine Sm.mCons ?_
  refine Sm.pu (rfl) ?_
  refine Sm.pu rfl ?_
  refine Sm.op (os_en (sqD_D _)) fun r3 => ?_
  refine Sm.bR (I := fun (z : D) (y : (Option D) × (Option D)) => [some (eD rods1), some ((eL D.str) names2), some (eD z), y.1, y.2]) (Q := (RT (fun (b : (Option Int)) => (eO D.int) b) (fun (_ : (Option Int)) => []) [])) ?_ ?_ ?_
  · refine Sm.forR (e := (eP D.int eD)) (I := fun (z : D) (y : (Option D) × (Option D)) => [some (eD rods1), some ((eL D.str) names2), some (eD z), y.1, y.2]) (Q := (RT (fun (b : (Option Int)) => (eO D.int) b) (fun (_ : (Option Int)) => []) [])) ?_ _ ((eP D.str D.str) (("" : Str), ("" : Str))) (none, none)
    · intro x9
      intro last10
      intro j3_4
      refine Sm.gp rfl ?_
      refine Sm.fin ?_
      refine Sm.sq ?_
      refine Sm.ifc ?_
      refine Sm.mOr ?_
      refine Sm.mNot ?_
      refine Sm.mT ?_
      refine Sm.mCkd ?_
      refine Sm.mCons ?_
      refine Sm.pu (rfl) ?_
      refine Sm.mCons ?_
      refine Sm.pu (rfl) ?_
      refine Sm.pu rfl ?_
      refine Sm.pu rfl ?_
      refine Sm.ckK (q_is_rod x9.2 names2) ⟨rfl, rfl, rfl⟩ rfl trivial fun v11 => ?_
      refine Sm.opp rfl ?_
      refine Sm.bd (f := fun z => z) (g := fun _ => [some (eD rods1), some ((eL D.str) names2), some (eD last10), some (D.int x9.1), some (eD x9.2)]) ?_ fun v14 => ?_
      · refine Sm.orB (fun _ => ?_) rfl
        refine Sm.ex ?_
        refine Sm.mB ?_
        refine Sm.m2 ?_
        refine Sm.pu (rfl) ?_
        refine Sm.pu (rfl) ?_
        refine Sm.op os_B fun v13 => ?_
        refine Sm.opp rfl ?_
        exact Sm.done rfl
      · refine Sm.ifS ?_ ?_
        · intro _
          refine Sm.ret ?_
          refine Sm.pu (rfl) ?_
          exact Sm.done (b := (Stp.rt (some x9.1))) (RT.rt ⟨_, rfl, rfl⟩)
        · intro _
          refine Sm.nx ?_
          refine Sm.set ?_
          refine Sm.pu (rfl) ?_
          exact Sm.done (b := (Stp.on x9.2)) ⟨⟨_, _⟩, .inl rfl⟩
  · intro v14 hv
    exact Sm.done hv
  · intro last8
    intro j3_4
    refine Sm.ret ?_
    refine Sm.pu (rfl) ?_
    exact Sm.done (b := none) ⟨_, rfl, rfl⟩)
end Law
namespace Law
open PySem PySem.Spec PyProof.Rows L2 G
noncomputable def t_Moor_init (self1 : D) (gauges2 : D) (rods3 : D) : O (D) :=
  (isK .tuple gauges2).bind fun v4 =>
  (if (!v4) = true then .ok true else ((opI (dLen [gauges2])).bind fun v6 =>
  O.ok (decide ((12 : Int) < v6)))).bind fun v7 =>
  if v7 = true then
  (O.no)
  else
  ((t_odd_gauge gauges2).bind fun place8 =>
  if place8.isSome = true then
  (O.no)
  else
  (((cT (cP cS cI)) gauges2).bind fun gauges9 =>
  (isK .tuple rods3).bind fun v10 =>
  if (!v10) = true then
  (O.no)
  else
  ((lcM (fun (x11 : Str × Int) => x11.1) gauges9).bind fun v12 =>
  (t_odd_rod rods3 v12).bind fun place13 =>
  if place13.isSome = true then
  (O.no)
  else
  (((cT (cP cS cS)) rods3).bind fun rods14 =>
  (flO 0 0 self1 ((eT (eP D.str D.int)) gauges9)).bind fun self15 =>
  (flO 0 1 self15 ((eT (eP D.str D.str)) rods14)).bind fun self16 =>
  O.ok self16))))
theorem q_Moor_init (self1 : D) (gauges2 : D) (rods3 : D) : FSm MF_f_Moor_init [eD self1, eD gauges2, eD rods3] (fun (_ : D) => D.non) (fun (b : D) => [eD b]) (t_Moor_init self1 gauges2 rods3) := FSm.mkN (show Sm (fun _ => True) (RN (fun (_ : D) => D.non) (fun (b : D) => [eD b]) [0]) (m_f_Moor_init [some (eD self1), some (eD gauges2), some (eD rods3), none, none, none]) _ from by
  refine Sm.fin ?_
  refine Sm.sq ?_
  refine Sm.ifc ?_
  refine Sm.mOr ?_
  refine Sm.mNot ?_
  refine Sm.mT ?_
  refine Sm.m1 ?_
  refine Sm.pu (rfl) ?_
  refine Sm.op (os_isK _ _) fun v4 => ?_
  refine Sm.opp rfl ?_
  refine Sm.bd (f := fun z => z) (g := fun _ => [some (eD self1), some (eD gauges2), some (eD rods3), none, none, none]) ?_ fun v7 => ?_
  · refine Sm.orB (fun _ => ?_) rfl
    refine Sm.ex ?_
    refine Sm.mB ?_
    refine Sm.m2 ?_
    refine Sm.mA ?_
    refine Sm.mCons ?_
    refine Sm.pu (rfl) ?_
    refine Sm.pu rfl ?_
    refine Sm.op os_I fun v6 => ?_
    refine Sm.pu (rfl) ?_
    refine Sm.opp (gt_ii _ _) ?_
    refine Sm.opp rfl ?_
    exact Sm.done rfl
  · refine Sm.ifS ?_ ?_
    · intro _
      exact Sm.nil
    · intro _
      refine Sm.nx ?_
      refine Sm.sq ?_
      refine Sm.set ?_
      refine Sm.mCkd ?_
      refine Sm.mCons ?_
      refine Sm.pu (rfl) ?_
      refine Sm.pu rfl ?_
      refine Sm.pu rfl ?_
      refine Sm.ckK (q_odd_gauge gauges2) ⟨rfl, rfl, rfl⟩ rfl trivial fun place8 => ?_
      refine Sm.sq ?_
      refine Sm.ifp (mB_ok (m2_ok (rfl) (rfl) (isnn_O (fun _ => rfl) _))) ?_ ?_
      · intro _
        exact Sm.nil
      · intro _
        refine Sm.nx ?_
        refine Sm.sq ?_
        refine Sm.ch (cst_tup (cst_p cst_str cst_int)) fun gauges9 hc => ?_
        subst hc
        refine Sm.ifc ?_
        refine Sm.mNot ?_
        refine Sm.mT ?_
        refine Sm.m1 ?_
        refine Sm.pu (rfl) ?_
        refine Sm.op (os_isK _ _) fun v10 => ?_
        refine Sm.opp rfl ?_
        refine Sm.ifS ?_ ?_
        · intro _
          exact Sm.nil
        · intro _
          refine Sm.nx ?_
          refine Sm.sq ?_
          refine Sm.set ?_
          refine Sm.mCkd ?_
          refine Sm.mCons ?_
          refine Sm.pu (rfl) ?_
          refine Sm.mCons ?_
          refine Sm.mLc ?_
          refine Sm.mIt ?_
          refine Sm.pu (rfl) ?_
          refine Sm.opp (it_t _) ?_
          refine Sm.lcM (ex := (eP D.str D.int)) (ey := D.str) (ρ1 := fun (x11 : Str × Int) => [some (eD self1), some ((eT (eP D.str D.int)) gauges9), some (eD rods3), some ((eO D.int) place8), some (D.str x11.1), some (D.int x11.2)]) (f := fun (x11 : Str × Int) => x11.1) (fun x11 => rfl) (fun x11 => rfl) ?_ _ fun v12 => ?_
          · exact fun x11 => rfl
          · refine Sm.pu rfl ?_
            refine Sm.pu rfl ?_
            refine Sm.ckK (q_odd_rod rods3 v12) ⟨rfl, rfl, rfl⟩ rfl trivial fun place13 => ?_
            refine Sm.sq ?_
            refine Sm.ifp (mB_ok (m2_ok (rfl) (rfl) (isnn_O (fun _ => rfl) _))) ?_ ?_
            · intro _
              exact Sm.nil
            · intro _
              refine Sm.nx ?_
              refine Sm.sq ?_
              refine Sm.ch (cst_tup (cst_p cst_str cst_str)) fun rods14 hc => ?_
              subst hc
              refine Sm.fl ?_
              refine Sm.pu (rfl) ?_
              refine Sm.flK rfl fun self15 => ?_
              refine Sm.fl ?_
              refine Sm.pu (rfl) ?_
              refine Sm.flK rfl fun self16 => ?_
              exact Sm.done (b := self16) ⟨_, .inr ⟨rfl, rfl⟩, rfl⟩)
end Law
namespace Law
open PySem PySem.Spec PyProof.Rows L2 G
noncomputable def t_law_is_sat (highs1 : List Int) (odd2 : D) : O (Bool) :=
  (isK .tuple odd2).bind fun v3 =>
  (if (!v3) = true then .ok true else ((opI (dLen [odd2])).bind fun v5 =>
  O.ok (!decide (v5 = (highs1.length : Int))))).bind fun v6 =>
  if v6 = true then
  (O.ok false)
  else
  ((zpO (dSq odd2) (some highs1)).bind fun r7 =>
  (forR (ρ := Bool) (fun (x26 : D × Int) (_ : Unit) =>
  (isK .int x26.1).bind fun v27 =>
  (if (!v27) = true then .ok true else ((isK .bool x26.1).bind fun v36 =>
  (if v36 = true then .ok true else ((opB (dLe (D.int (0 : Int)) x26.1)).bind fun v40 =>
  (if v40 = true then opB (dLe x26.1 (D.int x26.2)) else .ok false).bind fun v42 =>
  O.ok (!v42))).bind fun v43 =>
  O.ok v43)).bind fun v44 =>
  if v44 = true then
  (O.ok (Stp.rt false))
  else
  (O.ok (Stp.on ()))) r7 ()).bind fun z => match z with
  | .inl v44 => O.ok v44
  | .inr _ =>
  O.ok true)
theorem q_law_is_sat (highs1 : List Int) (odd2 : D) : FSm MF_f_law_is_sat [(eT D.int) highs1, eD odd2] (fun (b : Bool) => D.bl b) (fun (_ : Bool) => []) (t_law_is_sat highs1 odd2) := FSm.mk (show Sm (fun _ => True) (RT (fun (b : Bool) => D.bl b) (fun (_ : Bool) => []) []) (m_f_law_is_sat [some ((eT D.int) highs1), some (eD odd2), none, none]) _ from by
  refine Sm.fin ?_
  refine Sm.sq ?_
  refine Sm.ifc ?_
  refine Sm.mOr ?_
  refine Sm.mNot ?_
  refine Sm.mT ?_
  refine Sm.m1 ?_
  refine Sm.pu (rfl) ?_
  refine Sm.op (os_isK _ _) fun v3 => ?_
  refine Sm.opp rfl ?_
  refine Sm.bd (f := fun z => z) (g := fun _ => [some ((eT D.int) highs1), some (eD odd2), none, none]) ?_ fun v6 => ?_
  · refine Sm.orB (fun _ => ?_) rfl
    refine Sm.ex ?_
    refine Sm.mB ?_
    refine Sm.m2 ?_
    refine Sm.mA ?_
    refine Sm.mCons ?_
    refine Sm.pu (rfl) ?_
    refine Sm.pu rfl ?_
    refine Sm.op os_I fun v5 => ?_
    refine Sm.pu (a := D.int (highs1.length : Int)) (a_ok (cons_ok (rfl) nil_ok) (len_t _)) ?_
    refine Sm.opp (ne_ii _ _) ?_
    refine Sm.opp rfl ?_
    exact Sm.done rfl
  · refine Sm.ifS ?_ ?_
    · intro _
      refine Sm.ret ?_
      refine Sm.pu (rfl) ?_
      exact Sm.done (b := false) ⟨_, rfl, rfl⟩
    · intro _
      refine Sm.nx ?_
      refine Sm.sq ?_
      refine Sm.for ?_
      refine Sm.mZp ?_
      refine Sm.mCons ?_
      refine Sm.pu (rfl) ?_
      refine Sm.mCons ?_
      refine Sm.pu (rfl) ?_
      refine Sm.pu rfl ?_
      refine Sm.op (os_zp (sqD_D _) (sq_t _)) fun r7 => ?_
      refine Sm.bR (I := fun (z : Unit) (y : (Option D) × (Option D)) => [some ((eT D.int) highs1), some (eD odd2), y.1, y.2]) (Q := (RT (fun (b : Bool) => D.bl b) (fun (_ : Bool) => []) [])) ?_ ?_ ?_
      · refine Sm.forR (e := (eP eD D.int)) (I := fun (z : Unit) (y : (Option D) × (Option D)) => [some ((eT D.int) highs1), some (eD odd2), y.1, y.2]) (Q := (RT (fun (b : Bool) => D.bl b) (fun (_ : Bool) => []) [])) ?_ _ () (none, none)
        · intro x26
          intro _
          intro j2_3
          refine Sm.gp rfl ?_
          refine Sm.fin ?_
          refine Sm.ifc ?_
          refine Sm.mOr ?_
          refine Sm.mNot ?_
          refine Sm.mT ?_
          refine Sm.m1 ?_
          refine Sm.pu (rfl) ?_
          refine Sm.op (os_isK _ _) fun v27 => ?_
          refine Sm.opp rfl ?_
          refine Sm.bd (f := fun z => z) (g := fun _ => [some ((eT D.int) highs1), some (eD odd2), some (eD x26.1), some (D.int x26.2)]) ?_ fun v44 => ?_
          · refine Sm.orB (fun _ => ?_) rfl
            refine Sm.ex ?_
            refine Sm.mOr ?_
            refine Sm.mT ?_
            refine Sm.m1 ?_
            refine Sm.pu (rfl) ?_
            refine Sm.op (os_isK _ _) fun v36 => ?_
            refine Sm.opp rfl ?_
            refine Sm.bd (f := fun z => z) (g := fun _ => [some ((eT D.int) highs1), some (eD odd2), some (eD x26.1), some (D.int x26.2)]) ?_ fun v43 => ?_
            · refine Sm.orB (fun _ => ?_) rfl
              refine Sm.ex ?_
              refine Sm.mNot ?_
              refine Sm.mB ?_
              refine Sm.mCh ?_
              refine Sm.pu (rfl) ?_
              refine Sm.pu (rfl) ?_
              refine Sm.op os_B fun v40 => ?_
              refine Sm.bd (f := D.bl) (g := fun _ => [some ((eT D.int) highs1), some (eD odd2), some (eD x26.1), some (D.int x26.2)]) ?_ fun v42 => ?_
              · refine Sm.chK (fun _ => ?_) rfl
                refine Sm.pu (rfl) ?_
                refine Sm.ex ?_
                exact Sm.opE os_B
              · refine Sm.opp rfl ?_
                exact Sm.done rfl
            · exact Sm.done rfl
          · refine Sm.ifS ?_ ?_
            · intro _
              refine Sm.ret ?_
              refine Sm.pu (rfl) ?_
              exact Sm.done (b := (Stp.rt false)) (RT.rt ⟨_, rfl, rfl⟩)
            · intro _
              refine Sm.nx ?_
              exact Sm.done (b := (Stp.on ())) ⟨⟨_, _⟩, .inl rfl⟩
      · intro v44 hv
        exact Sm.done hv
      · intro _
        intro j2_3
        refine Sm.ret ?_
        refine Sm.pu (rfl) ?_
        exact Sm.done (b := true) ⟨_, rfl, rfl⟩)
end Law
namespace Law
open PySem PySem.Spec PyProof.Rows L2 G
noncomputable def t_checked_moor (thing1 : D) : O (D) :=
  (isC 0 thing1).bind fun v2 =>
  if (!v2) = true then
  (O.er ⟨1, []⟩)
  else
  (O.ok thing1)
theorem q_checked_moor (thing1 : D) : FSm MF_f_checked_moor [eD thing1] (fun (b : D) => eD b) (fun (_ : D) => []) (t_checked_moor thing1) := FSm.mk (show Sm (fun _ => True) (RT (fun (b : D) => eD b) (fun (_ : D) => []) []) (m_f_checked_moor [some (eD thing1)]) _ from by
  refine Sm.fin ?_
  refine Sm.sq ?_
  refine Sm.ifc ?_
  refine Sm.mNot ?_
  refine Sm.mT ?_
  refine Sm.m1 ?_
  refine Sm.pu (rfl) ?_
  refine Sm.op os_B fun v2 => ?_
  refine Sm.opp rfl ?_
  refine Sm.ifS ?_ ?_
  · intro _
    exact Sm.rs trivial
  · intro _
    refine Sm.nx ?_
    refine Sm.ret ?_
    refine Sm.pu (rfl) ?_
    exact Sm.done (b := thing1) ⟨_, rfl, rfl⟩)
end Law
namespace Law
open PySem PySem.Spec PyProof.Rows L2 G
noncomputable def t_is_stand (moor1 : D) (thing2 : D) : O (Bool) :=
  (t_checked_moor moor1).bind fun v3 =>
  (isK .tuple thing2).bind fun v4 =>
  (if (!v4) = true then .ok true else ((opI (dLen [thing2])).bind fun v7 =>
  (atC 0 0 (cT (cP cS cI)) moor1).bind fun gauges8 =>
  O.ok (!decide (v7 = (gauges8.length : Int))))).bind fun v9 =>
  if v9 = true then
  (O.ok false)
  else
  ((atC 0 0 (cT (cP cS cI)) moor1).bind fun gauges10 =>
  (zpO (dSq thing2) (some gauges10)).bind fun r11 =>
  (lcO (fun (x12 : D × (Str × Int)) => (t_is_number x12.1 x12.2.2).bind fun v14 =>
  O.ok v14) r11).bind fun v15 =>
  O.ok (v15.all id))
theorem q_is_stand (moor1 : D) (thing2 : D) : FSm MF_f_is_stand [eD moor1, eD thing2] (fun (b : Bool) => D.bl b) (fun (_ : Bool) => []) (t_is_stand moor1 thing2) := FSm.mk (show Sm (fun _ => True) (RT (fun (b : Bool) => D.bl b) (fun (_ : Bool) => []) []) (m_f_is_stand [some (eD moor1), some (eD thing2), none, none, none]) _ from by
  refine Sm.fin ?_
  refine Sm.sq ?_
  refine Sm.exp ?_
  refine Sm.mCkd ?_
  refine Sm.mCons ?_
  refine Sm.pu (rfl) ?_
  refine Sm.pu rfl ?_
  refine Sm.pu rfl ?_
  refine Sm.ckK (q_checked_moor moor1) ⟨rfl, rfl, rfl⟩ rfl trivial fun v3 => ?_
  refine Sm.sq ?_
  refine Sm.ifc ?_
  refine Sm.mOr ?_
  refine Sm.mNot ?_
  refine Sm.mT ?_
  refine Sm.m1 ?_
  refine Sm.pu (rfl) ?_
  refine Sm.op (os_isK _ _) fun v4 => ?_
  refine Sm.opp rfl ?_
  refine Sm.bd (f := fun z => z) (g := fun _ => [some (eD moor1), some (eD thing2), none, none, none]) ?_ fun v9 => ?_
  · refine Sm.orB (fun _ => ?_) rfl
    refine Sm.ex ?_
    refine Sm.mB ?_
    refine Sm.m2 ?_
    refine Sm.mA ?_
    refine Sm.mCons ?_
    refine Sm.pu (rfl) ?_
    refine Sm.pu rfl ?_
    refine Sm.op os_I fun v7 => ?_
    refine Sm.mA ?_
    refine Sm.mCons ?_
    refine Sm.m1 ?_
    refine Sm.pu (rfl) ?_
    refine Sm.op (os_atC (cst_tup (cst_p cst_str cst_int))) fun gauges8 => ?_
    refine Sm.pu rfl ?_
    refine Sm.opp (len_t _) ?_
    refine Sm.opp (ne_ii _ _) ?_
    refine Sm.opp rfl ?_
    exact Sm.done rfl
  · refine Sm.ifS ?_ ?_
    · intro _
      refine Sm.ret ?_
      refine Sm.pu (rfl) ?_
      exact Sm.done (b := false) ⟨_, rfl, rfl⟩
    · intro _
      refine Sm.nx ?_
      refine Sm.ret ?_
      refine Sm.mA ?_
      refine Sm.mCons ?_
      refine Sm.mLc ?_
      refine Sm.mZp ?_
      refine Sm.mCons ?_
      refine Sm.pu (rfl) ?_
      refine Sm.mCons ?_
      refine Sm.m1 ?_
      refine Sm.pu (rfl) ?_
      refine Sm.op (os_atC (cst_tup (cst_p cst_str cst_int))) fun gauges10 => ?_
      refine Sm.pu rfl ?_
      refine Sm.op (os_zp (sqD_D _) (sq_t _)) fun r11 => ?_
      refine Sm.lcO (ex := (eP eD (eP D.str D.int))) (ey := D.bl) (ρ1 := fun (x12 : D × (Str × Int)) => [some (eD moor1), some (eD thing2), some (eD x12.1), some (D.str x12.2.1), some (D.int x12.2.2)]) (f := fun (x12 : D × (Str × Int)) => (t_is_number x12.1 x12.2.2).bind fun v14 =>
        O.ok v14) (fun x12 => rfl) (fun x12 => rfl) ?_ _ fun v15 => ?_
      · intro x12
        refine Sm.ex ?_
        refine Sm.mCkd ?_
        refine Sm.mCons ?_
        refine Sm.pu (rfl) ?_
        refine Sm.mCons ?_
        refine Sm.pu (rfl) ?_
        refine Sm.pu rfl ?_
        refine Sm.pu rfl ?_
        refine Sm.ckK (q_is_number x12.1 x12.2.2) ⟨rfl, rfl, rfl⟩ rfl trivial fun v14 => ?_
        exact Sm.done rfl
      · refine Sm.pu rfl ?_
        refine Sm.opp (all_l _) ?_
        exact Sm.done (b := (v15.all id)) ⟨_, rfl, rfl⟩)
end Law
namespace Law
open PySem PySem.Spec PyProof.Rows L2 G
noncomputable def t_law_told_right (wild1 : D) (highs2 : List Int) (odd3 : D) : O (Bool) :=
  (reprO odd3).bind fun ahead4 =>
  (t_law_is_sat highs2 odd3).bind fun due5 =>
  (t_is_stand wild1 odd3).bind fun v6 =>
  (t_is_stand wild1 odd3).bind fun v7 =>
  (reprO ((eL D.bl) ([v6, v7]))).bind fun v8 =>
  (reprO ((eL D.bl) ([due5, due5]))).bind fun v9 =>
  (if decide (v8 = v9) = true then ((reprO odd3).bind fun v11 =>
  O.ok (decide (v11 = ahead4))) else .ok false).bind fun v12 =>
  O.ok v12
theorem q_law_told_right (wild1 : D) (highs2 : List Int) (odd3 : D) : FSm MF_f_law_told_right [eD wild1, (eT D.int) highs2, eD odd3] (fun (b : Bool) => D.bl b) (fun (_ : Bool) => []) (t_law_told_right wild1 highs2 odd3) := FSm.mk (show Sm (fun _ => True) (RT (fun (b : Bool) => D.bl b) (fun (_ : Bool) => []) []) (m_f_law_told_right [some (eD wild1), some ((eT D.int) highs2), some (eD odd3), none, none, none]) _ from by
  refine Sm.fin ?_
  refine Sm.sq ?_
  refine Sm.par ?_
  refine Sm.mCons ?_
  refine Sm.mA ?_
  refine Sm.mCons ?_
  refine Sm.pu (rfl) ?_
  refine Sm.pu rfl ?_
  refine Sm.op os_S fun ahead4 => ?_
  refine Sm.mCons ?_
  refine Sm.mCkd ?_
  refine Sm.mCons ?_
  refine Sm.pu (rfl) ?_
  refine Sm.mCons ?_
  refine Sm.pu (rfl) ?_
  refine Sm.pu rfl ?_
  refine Sm.pu rfl ?_
  refine Sm.ckK (q_law_is_sat highs2 odd3) ⟨rfl, rfl, rfl⟩ rfl trivial fun due5 => ?_
  refine Sm.pu rfl ?_
  refine Sm.sq ?_
  refine Sm.set ?_
  refine Sm.mLst ?_
  refine Sm.mCons ?_
  refine Sm.mCkd ?_
  refine Sm.mCons ?_
  refine Sm.pu (rfl) ?_
  refine Sm.mCons ?_
  refine Sm.pu (rfl) ?_
  refine Sm.pu rfl ?_
  refine Sm.pu rfl ?_
  refine Sm.ckK (q_is_stand wild1 odd3) ⟨rfl, rfl, rfl⟩ rfl trivial fun v6 => ?_
  refine Sm.mCons ?_
  refine Sm.mCkd ?_
  refine Sm.pu rfl ?_
  refine Sm.mCons ?_
  refine Sm.pu (rfl) ?_
  refine Sm.mCons ?_
  refine Sm.pu (rfl) ?_
  refine Sm.pu rfl ?_
  refine Sm.ckK (q_is_stand wild1 odd3) ⟨rfl, rfl, rfl⟩ rfl trivial fun v7 => ?_
  refine Sm.pu rfl ?_
  refine Sm.opp (d := (eL D.bl) [v6, v7]) (lstIf (n := 2) rfl (by decide)) ?_
  refine Sm.ret ?_
  refine Sm.mAndV ?_
  refine Sm.m2 ?_
  refine Sm.mA ?_
  refine Sm.mCons ?_
  refine Sm.pu (rfl) ?_
  refine Sm.pu rfl ?_
  refine Sm.op os_S fun v8 => ?_
  refine Sm.mA ?_
  refine Sm.mCons ?_
  refine Sm.pu (a := (eL D.bl) ([due5, due5])) (lst_ok (cons_ok (rfl) (cons_ok (rfl) (nil_ok))) (show (2 : Nat) ≤ sizeLine by decide)) ?_
  refine Sm.pu rfl ?_
  refine Sm.op os_S fun v9 => ?_
  refine Sm.opp (ety_str.eq (by decide) v8 v9) ?_
  refine Sm.bd (f := D.bl) (g := fun _ => [some (eD wild1), some ((eT D.int) highs2), some (eD odd3), some (D.str ahead4), some (D.bl due5), some ((eL D.bl) ([v6, v7]))]) ?_ fun v12 => ?_
  · refine Sm.andK (fun _ => ?_) rfl
    refine Sm.ex ?_
    refine Sm.m2 ?_
    refine Sm.mA ?_
    refine Sm.mCons ?_
    refine Sm.pu (rfl) ?_
    refine Sm.pu rfl ?_
    refine Sm.op os_S fun v11 => ?_
    refine Sm.pu (rfl) ?_
    refine Sm.opp (ety_str.eq (by decide) v11 ahead4) ?_
    exact Sm.done rfl
  · exact Sm.done (b := v12) ⟨_, rfl, rfl⟩)
end Law
namespace Law
open PySem PySem.Spec PyProof.Rows L2 G
noncomputable def t_law_cell (script1 : List Int) (k2 : Int) : O (Int) :=
  if decide (k2 < (script1.length : Int)) = true then
  ((ixL script1 k2).bind fun v3 =>
  O.ok v3)
  else
  ((mulI k2 k2).bind fun v4 =>
  (forN (fun (x7 : Int) (state8 : Int) =>
  (O.ok (((state8 * (70019 : Int)) + x7).fmod (1000000207 : Int))).bind fun (state9 : Int) =>
  O.ok state9) (cutL script1 none (some (4 : Int))) (((30013 : Int) * ((v4 + ((13 : Int) * k2)) + (7 : Int))).fmod (1000000207 : Int))).bind fun state6 =>
  O.ok state6)
theorem q_law_cell (script1 : List Int) (k2 : Int) : FSm MF_f_law_cell [D.scr script1, D.int k2] (fun (b : Int) => D.int b) (fun (_ : Int) => []) (t_law_cell script1 k2) := FSm.mk (show Sm (fun _ => True) (RT (fun (b : Int) => D.int b) (fun (_ : Int) => []) []) (m_f_law_cell [some (D.scr script1), some (D.int k2), none, none]) _ from by
  refine Sm.fin ?_
  refine Sm.sq ?_
  refine Sm.ifp (mB_ok (m2_ok (rfl) (a_ok (cons_ok (rfl) nil_ok) (len_sc _)) (lt_ii _ _))) ?_ ?_
  · intro _
    refine Sm.ret ?_
    refine Sm.m2 ?_
    refine Sm.pu (rfl) ?_
    refine Sm.pu (rfl) ?_
    refine Sm.op (os_ixC _ _) fun v3 => ?_
    exact Sm.done (b := v3) ⟨_, rfl, rfl⟩
  · intro _
    refine Sm.nx ?_
    refine Sm.sq ?_
    refine Sm.set ?_
    refine Sm.m2 ?_
    refine Sm.m2 ?_
    refine Sm.pu (rfl) ?_
    refine Sm.m2 ?_
    refine Sm.m2 ?_
    refine Sm.m2 ?_
    refine Sm.pu (rfl) ?_
    refine Sm.pu (rfl) ?_
    refine Sm.op (os_mul _ _) fun v4 => ?_
    refine Sm.pu (a := D.int ((13 : Int) * k2)) (m2_ok (rfl) (rfl) (mul_ii (cmul_l (i := 13) (by decide) (by decide)))) ?_
    refine Sm.opp rfl ?_
    refine Sm.pu (rfl) ?_
    refine Sm.opp rfl ?_
    refine Sm.opp (mul_ii (cmul_l (i := 30013) (by decide) (by decide))) ?_
    refine Sm.pu (rfl) ?_
    refine Sm.opp (md_ii (j := 1000000207) (by decide)) ?_
    refine Sm.sq ?_
    refine Sm.for ?_
    refine Sm.mIt ?_
    refine Sm.pu (a := (eL D.int) (cutL script1 none (some (4 : Int)))) (sl_ok' (rfl) (pn_ok) (pt_ok (rfl)) (sl_sc _ _ _)) ?_
    refine Sm.opp (it_l _) ?_
    refine Sm.bs (I := fun (z : Int) (y : (Option D)) => [some (D.scr script1), some (D.int k2), some (D.int z), y]) ?_ ?_
    · refine Sm.forN (e := D.int) (I := fun (z : Int) (y : (Option D)) => [some (D.scr script1), some (D.int k2), some (D.int z), y]) ?_ _ (((30013 : Int) * ((v4 + ((13 : Int) * k2)) + (7 : Int))).fmod (1000000207 : Int)) (none)
      · intro x7
        intro state8
        intro j3
        refine Sm.gp rfl ?_
        refine Sm.fin ?_
        refine Sm.set ?_
        refine Sm.pv (f := D.int) (a := (((state8 * (70019 : Int)) + x7).fmod (1000000207 : Int))) (m2_ok (m2_ok (m2_ok (rfl) (rfl) (mul_ii (cmul_r (j := 70019) (by decide) (by decide)))) (rfl) rfl) (rfl) (md_ii (j := 1000000207) (by decide))) fun state9 => ?_
        exact Sm.done (b := state9) ⟨_, .inl rfl⟩
    · intro state6
      intro j3
      refine Sm.ret ?_
      refine Sm.pu (rfl) ?_
      exact Sm.done (b := state6) ⟨_, rfl, rfl⟩)
end Law
namespace Law
open PySem PySem.Spec PyProof.Rows L2 G
noncomputable def t_law_hand (cell1 : Int) : O ((List Int)) :=
  (O.ok (if (decide (cell1 < (0 : Int)) || decide ((1000000000000000000 : Int) ≤ cell1)) = true then (absI cell1) else (0 : Int))).bind fun (digits2 : Int) =>
  O.ok ([digits2, (((cell1.fmod (1000000207 : Int)) * (9013 : Int)) + (5021 : Int)), (0 : Int)])
theorem q_law_hand (cell1 : Int) : FSm MF_f_law_hand [D.int cell1] (fun (b : (List Int)) => (eL D.int) b) (fun (_ : (List Int)) => []) (t_law_hand cell1) := FSm.mk (show Sm (fun _ => True) (RT (fun (b : (List Int)) => (eL D.int) b) (fun (_ : (List Int)) => []) []) (m_f_law_hand [some (D.int cell1), none]) _ from by
  refine Sm.fin ?_
  refine Sm.sq ?_
  refine Sm.set ?_
  refine Sm.pv (f := D.int) (a := (if (decide (cell1 < (0 : Int)) || decide ((1000000000000000000 : Int) ≤ cell1)) = true then (absI cell1) else (0 : Int))) (mIf_ok (e := D.int) (orB_ok (mB_ok (m2_ok (rfl) (rfl) (lt_ii _ _))) (mB_ok (m2_ok (rfl) (m2_ok (rfl) (rfl) (show dPw (.int 10) (.int 18) = some (.int 1000000000000000000) by simp [dPw, dInt, CPow])) (ge_ii _ _)))) (a_ok (cons_ok (rfl) nil_ok) (abs_i _)) (rfl)) fun digits2 => ?_
  refine Sm.ret ?_
  refine Sm.pu (a := (eL D.int) ([digits2, (((cell1.fmod (1000000207 : Int)) * (9013 : Int)) + (5021 : Int)), (0 : Int)])) (lst_ok (cons_ok (rfl) (cons_ok (m2_ok (m2_ok (m2_ok (rfl) (rfl) (md_ii (j := 1000000207) (by decide))) (rfl) (mul_ii (cmul_r (j := 9013) (by decide) (by decide)))) (rfl) rfl) (cons_ok (rfl) (nil_ok)))) (show (3 : Nat) ≤ sizeLine by decide)) ?_
  exact Sm.done (b := ([digits2, (((cell1.fmod (1000000207 : Int)) * (9013 : Int)) + (5021 : Int)), (0 : Int)])) ⟨_, rfl, rfl⟩)
end Law
namespace Law
open PySem PySem.Spec PyProof.Rows L2 G
noncomputable def t_law_draw (hand1 : List Int) (upto2 : Int) : O (Int × (List Int)) :=
  (ixL hand1 (2 : Int)).bind fun v3 =>
  (stL hand1 (2 : Int) (v3 + (1 : Int))).bind fun hand4 =>
  (ixL hand4 (0 : Int)).bind fun v5 =>
  if decide ((0 : Int) < v5) = true then
  ((ixL hand4 (0 : Int)).bind fun v6 =>
  (dmI v6 upto2).bind fun v7 =>
  (stL hand4 (0 : Int) v7.1).bind fun hand8 =>
  O.ok (v7.2, hand8))
  else
  ((ixL hand4 (1 : Int)).bind fun v9 =>
  (mulI (v9.fmod (1000000207 : Int)) (((v9.fmod (1000000207 : Int)).fmod (44017 : Int)) + (28001 : Int))).bind fun v10 =>
  (ixL hand4 (2 : Int)).bind fun v11 =>
  (stL hand4 (1 : Int) (v10 + ((70003 : Int) * v11))).bind fun hand12 =>
  (ixL hand12 (1 : Int)).bind fun v13 =>
  (mdI ((v13.fmod (1000000207 : Int)).fdiv (32 : Int)) upto2).bind fun v14 =>
  O.ok (v14, hand12))
theorem q_law_draw (hand1 : List Int) (upto2 : Int) : FSm MF_f_law_draw [(eL D.int) hand1, D.int upto2] (fun (b : Int × (List Int)) => D.int b.1) (fun (b : Int × (List Int)) => [(eL D.int) b.2]) (t_law_draw hand1 upto2) := FSm.mk (show Sm (fun _ => True) (RT (fun (b : Int × (List Int)) => D.int b.1) (fun (b : Int × (List Int)) => [(eL D.int) b.2]) [0]) (m_f_law_draw [some ((eL D.int) hand1), some (D.int upto2), none, none]) _ from by
  refine Sm.fin ?_
  refine Sm.sq ?_
  refine Sm.asg ?_
  refine Sm.m2 ?_
  refine Sm.m2L ?_
  refine Sm.pu rfl ?_
  refine Sm.pu (rfl) ?_
  refine Sm.pu rfl ?_
  refine Sm.op (os_ixL _ _) fun v3 => ?_
  refine Sm.pu (rfl) ?_
  refine Sm.opp rfl ?_
  refine Sm.gSb (e := D.int) (v := (v3 + (1 : Int))) rfl (rfl) fun hand4 => ?_
  refine Sm.sq ?_
  refine Sm.ifc ?_
  refine Sm.mB ?_
  refine Sm.m2 ?_
  refine Sm.m2L ?_
  refine Sm.pu rfl ?_
  refine Sm.pu (rfl) ?_
  refine Sm.pu rfl ?_
  refine Sm.op (os_ixL _ _) fun v5 => ?_
  refine Sm.pu (rfl) ?_
  refine Sm.opp (gt_ii _ _) ?_
  refine Sm.opp rfl ?_
  refine Sm.ifS ?_ ?_
  · intro _
    refine Sm.sq ?_
    refine Sm.asg ?_
    refine Sm.mA ?_
    refine Sm.mCons ?_
    refine Sm.m2L ?_
    refine Sm.pu rfl ?_
    refine Sm.pu (rfl) ?_
    refine Sm.pu rfl ?_
    refine Sm.op (os_ixL _ _) fun v6 => ?_
    refine Sm.mCons ?_
    refine Sm.pu (rfl) ?_
    refine Sm.pu rfl ?_
    refine Sm.op (os_dm _ _) fun v7 => ?_
    refine Sm.gT rfl ?_
    refine Sm.gC ?_
    refine Sm.gSb (e := D.int) (v := v7.1) rfl (rfl) fun hand8 => ?_
    refine Sm.gC ?_
    refine Sm.gN ?_
    refine Sm.gE ?_
    refine Sm.ret ?_
    refine Sm.pu (rfl) ?_
    exact Sm.done (b := (v7.2, hand8)) ⟨_, rfl, rfl⟩
  · intro _
    refine Sm.nx ?_
    refine Sm.sq ?_
    refine Sm.set ?_
    refine Sm.m2 ?_
    refine Sm.m2L ?_
    refine Sm.pu rfl ?_
    refine Sm.pu (rfl) ?_
    refine Sm.pu rfl ?_
    refine Sm.op (os_ixL _ _) fun v9 => ?_
    refine Sm.pu (rfl) ?_
    refine Sm.opp (md_ii (j := 1000000207) (by decide)) ?_
    refine Sm.sq ?_
    refine Sm.asg ?_
    refine Sm.m2 ?_
    refine Sm.m2 ?_
    refine Sm.pu (rfl) ?_
    refine Sm.pu (a := D.int (((v9.fmod (1000000207 : Int)).fmod (44017 : Int)) + (28001 : Int))) (m2_ok (m2_ok (rfl) (rfl) (md_ii (j := 44017) (by decide))) (rfl) rfl) ?_
    refine Sm.op (os_mul _ _) fun v10 => ?_
    refine Sm.m2 ?_
    refine Sm.pu (rfl) ?_
    refine Sm.m2L ?_
    refine Sm.pu rfl ?_
    refine Sm.pu (rfl) ?_
    refine Sm.pu rfl ?_
    refine Sm.op (os_ixL _ _) fun v11 => ?_
    refine Sm.opp (mul_ii (cmul_l (i := 70003) (by decide) (by decide))) ?_
    refine Sm.opp rfl ?_
    refine Sm.gSb (e := D.int) (v := (v10 + ((70003 : Int) * v11))) rfl (rfl) fun hand12 => ?_
    refine Sm.ret ?_
    refine Sm.m2 ?_
    refine Sm.m2 ?_
    refine Sm.m2 ?_
    refine Sm.m2L ?_
    refine Sm.pu rfl ?_
    refine Sm.pu (rfl) ?_
    refine Sm.pu rfl ?_
    refine Sm.op (os_ixL _ _) fun v13 => ?_
    refine Sm.pu (rfl) ?_
    refine Sm.opp (md_ii (j := 1000000207) (by decide)) ?_
    refine Sm.pu (rfl) ?_
    refine Sm.opp (fd_ii (j := 32) ⟨by decide, by decide⟩) ?_
    refine Sm.pu (rfl) ?_
    refine Sm.op (os_md _ _) fun v14 => ?_
    exact Sm.done (b := (v14, hand12)) ⟨_, rfl, rfl⟩)
end Law
namespace Law
open PySem PySem.Spec PyProof.Rows L2 G
noncomputable def t_law_pairs (hand1 : List Int) (count2 : Int) : O ((List (Int × Int)) × (List Int)) :=
  (lrI count2).bind fun left3 =>
  (t_law_draw hand1 (6 : Int)).bind fun (way4, hand5) =>
  (whO (fun ((hand14, left15, spots16) : (List Int) × (List Int) × (List Int)) => O.ok (!decide (left15 = []))) (fun ((hand14, left15, spots16) : (List Int) × (List Int) × (List Int)) =>
  (t_law_draw hand14 (left15.length : Int)).bind fun (v17, hand18) =>
  (popAt left15 v17).bind fun (v20, left19) =>
  (appL spots16 v20).bind fun spots21 =>
  O.ok (hand18, left19, spots21)) (hand5, left3, [])).bind fun (hand11, left12, spots13) =>
  (rg1 count2).bind fun r22 =>
  (forN (fun (x28 : Int) (every29 : (List (Int × Int))) =>
  (rg2 (x28 + (1 : Int)) count2).bind fun r30 =>
  (lcM (fun (x31 : Int) => (x28, x31)) r30).bind fun v32 =>
  (extL every29 v32).bind fun every33 =>
  O.ok every33) r22 []).bind fun every27 =>
  (ixL ([[], [], [], [], [], every27]) way4).bind fun found34 =>
  (if (decide (way4 ∈ [(1 : Int), (2 : Int)])) = true then
  ((rg1 (count2 - (1 : Int))).bind fun r47 =>
  (lcO (fun (x48 : Int) => (ixL spots13 x48).bind fun v53 =>
  (ixL spots13 (x48 + (1 : Int))).bind fun v54 =>
  (ixL spots13 x48).bind fun v55 =>
  (ixL spots13 (x48 + (1 : Int))).bind fun v56 =>
  O.ok ((minI v53 v54), (maxI v55 v56))) r47).bind fun found57 =>
  O.ok found57)
  else
  (O.ok found34)).bind fun found46 =>
  (if (decide (way4 = (2 : Int)) && decide ((2 : Int) < count2)) = true then
  ((ixL spots13 (0 : Int)).bind fun v64 =>
  (ixL spots13 (count2 - (1 : Int))).bind fun v65 =>
  (ixL spots13 (0 : Int)).bind fun v66 =>
  (ixL spots13 (count2 - (1 : Int))).bind fun v67 =>
  (catL found46 ([((minI v64 v65), (maxI v66 v67))])).bind fun found68 =>
  O.ok found68)
  else
  (O.ok found46)).bind fun found63 =>
  (if decide (way4 = (3 : Int)) = true then
  ((lcO (fun (x76 : Int) => (ixL spots13 (0 : Int)).bind fun v79 =>
  (ixL spots13 (0 : Int)).bind fun v80 =>
  O.ok ((minI v79 x76), (maxI v80 x76))) (cutL spots13 (some (1 : Int)) none)).bind fun found81 =>
  O.ok found81)
  else
  (O.ok found63)).bind fun found75 =>
  (if decide (way4 = (4 : Int)) = true then
  ((lcW (fun (x94 : Int × Int) (hand99 : (List Int)) => (t_law_draw hand99 (3 : Int)).bind fun (v100, hand101) =>
  if decide (v100 = (0 : Int)) = true then (O.ok (some x94, hand101)) else .ok (none, hand101)) every27 hand11).bind fun (found102, hand103) =>
  O.ok (hand103, found102))
  else
  (O.ok (hand11, found75))).bind fun (hand92, found93) =>
  O.ok ((srt (pP PyData.int PyData.int) found93), hand92)
theorem q_law_pairs (hand1 : List Int) (count2 : Int) : FSm MF_f_law_pairs [(eL D.int) hand1, D.int count2] (fun (b : (List (Int × Int)) × (List Int)) => (eL (eP D.int D.int)) b.1) (fun (b : (List (Int × Int)) × (List Int)) => [(eL D.int) b.2]) (t_law_pairs hand1 count2) := FSm.mk (show Sm (fun _ => True) (RT (fun (b : (List (Int × Int)) × (List Int)) => (eL (eP D.int D.int)) b.1) (fun (b : (List (Int × Int)) × (List Int)) => [(eL D.int) b.2]) [0]) (m_f_law_pairs [some ((eL D.int) hand1), some (D.int count2), none, none, none, none, none, none, none, none, none]) _ from by
  refine Sm.fin ?_
  refine Sm.sq ?_
  refine Sm.par ?_
  refine Sm.mCons ?_
  refine Sm.m1 ?_
  refine Sm.pu (rfl) ?_
  refine Sm.op (os_lr _) fun left3 => ?_
  refine Sm.mCons ?_
  refine Sm.pu (a := (eL eD) []) (lst_ok (nil_ok) (show (0 : Nat) ≤ sizeLine by decide)) ?_
  refine Sm.mCons ?_
  refine Sm.pu (a := (eL eD) []) (lst_ok (nil_ok) (show (0 : Nat) ≤ sizeLine by decide)) ?_
  refine Sm.mCons ?_
  refine Sm.mCallH ?_
  refine Sm.asc ?_
  refine Sm.pu rfl ?_
  refine Sm.mCons ?_
  refine Sm.pu (rfl) ?_
  refine Sm.pu rfl ?_
  refine Sm.chH (q_law_draw hand1 (6 : Int)) rfl (fun _ => trivial) fun ⟨way4, hand5⟩ => ?_
  refine Sm.pu rfl ?_
  refine Sm.sq ?_
  refine Sm.bs (I := fun (z : (List Int) × (List Int) × (List Int)) (y : Unit) => [some ((eL D.int) z.1), some (D.int count2), some ((eL D.int) z.2.1), some ((eL D.int) z.2.2), some ((eL (eP D.int D.int)) []), some (D.int way4), none, none, none, none, none]) ?_ ?_
  · refine Sm.wh (I := fun (z : (List Int) × (List Int) × (List Int)) (y : Unit) => [some ((eL D.int) z.1), some (D.int count2), some ((eL D.int) z.2.1), some ((eL D.int) z.2.2), some ((eL (eP D.int D.int)) []), some (D.int way4), none, none, none, none, none]) ?_ ?_ (hand5, left3, []) ()
    · intro z_
      refine Prod.rec (fun hand14 z_ => ?_) z_
      refine Prod.rec (fun left15 spots16 => ?_) z_
      intro _
      refine Sm.ex ?_
      refine Sm.pu (mB_ok (m2L_okT rfl (lst_ok (nil_ok) (show (0 : Nat) ≤ sizeLine by decide)) ((ety_lst ety_int).ne (by decide) left15 []))) ?_
      exact Sm.done rfl
    · intro z_
      refine Prod.rec (fun hand14 z_ => ?_) z_
      refine Prod.rec (fun left15 spots16 => ?_) z_
      intro _ _
      refine Sm.fin ?_
      refine Sm.exp ?_
      refine Sm.mMl rfl ?_
      refine Sm.mCons ?_
      refine Sm.mMl rfl ?_
      refine Sm.mCons ?_
      refine Sm.mCallH ?_
      refine Sm.asc ?_
      refine Sm.pu rfl ?_
      refine Sm.mCons ?_
      refine Sm.pu (a_ok (cons_ok (rfl) nil_ok) (len_l _)) ?_
      refine Sm.pu rfl ?_
      refine Sm.chH (q_law_draw hand14 (left15.length : Int)) rfl (fun _ => trivial) fun ⟨v17, hand18⟩ => ?_
      refine Sm.pu rfl ?_
      refine Sm.mlK (f := fun b => (D.int b.1, (eL D.int) b.2)) (d := (eL D.int) left15) rfl (os_popAt (e := D.int) left15 v17) fun ⟨v20, left19⟩ => ?_
      refine Sm.pu rfl ?_
      refine Sm.mlK (f := fun b => (D.non, (eL D.int) b)) (d := (eL D.int) spots16) rfl (os_app (e := D.int) spots16 v20) fun spots21 => ?_
      exact Sm.done (b := (hand18, left19, spots21)) ⟨(), .inl rfl⟩
  · intro z_
    refine Prod.rec (fun hand11 z_ => ?_) z_
    refine Prod.rec (fun left12 spots13 => ?_) z_
    intro _
    refine Sm.sq ?_
    refine Sm.for ?_
    refine Sm.mRg1 ?_
    refine Sm.mCons ?_
    refine Sm.pu (rfl) ?_
    refine Sm.pu rfl ?_
    refine Sm.op (os_rg1 _) fun r22 => ?_
    refine Sm.bs (I := fun (z : (List (Int × Int))) (y : (Option D)) => [some ((eL D.int) hand11), some (D.int count2), some ((eL D.int) left12), some ((eL D.int) spots13), some ((eL (eP D.int D.int)) z), some (D.int way4), y, none, none, none, none]) ?_ ?_
    · refine Sm.forN (e := D.int) (I := fun (z : (List (Int × Int))) (y : (Option D)) => [some ((eL D.int) hand11), some (D.int count2), some ((eL D.int) left12), some ((eL D.int) spots13), some ((eL (eP D.int D.int)) z), some (D.int way4), y, none, none, none, none]) ?_ _ [] (none)
      · intro x28
        intro every29
        intro j6
        refine Sm.gp rfl ?_
        refine Sm.fin ?_
        refine Sm.exp ?_
        refine Sm.mMl rfl ?_
        refine Sm.mCons ?_
        refine Sm.mLc ?_
        refine Sm.mRg2 ?_
        refine Sm.mCons ?_
        refine Sm.pu (a := D.int (x28 + (1 : Int))) (m2_ok (rfl) (rfl) rfl) ?_
        refine Sm.mCons ?_
        refine Sm.pu (rfl) ?_
        refine Sm.pu rfl ?_
        refine Sm.op (os_rg2 _ _) fun r30 => ?_
        refine Sm.lcM (ex := D.int) (ey := (eP D.int D.int)) (ρ1 := fun (x31 : Int) => [some ((eL D.int) hand11), some (D.int count2), some ((eL D.int) left12), some ((eL D.int) spots13), some ((eL (eP D.int D.int)) every29), some (D.int way4), some (D.int x28), none, some (D.int x31), none, none]) (f := fun (x31 : Int) => (x28, x31)) (fun x31 => rfl) (fun x31 => rfl) ?_ _ fun v32 => ?_
        · exact fun x31 => tup_ok (cons_ok (rfl) (cons_ok (rfl) (nil_ok))) (show (2 : Nat) ≤ sizeLine by decide)
        · refine Sm.pu rfl ?_
          refine Sm.mlK (f := fun b => (D.non, (eL (eP D.int D.int)) b)) (d := (eL (eP D.int D.int)) every29) rfl (os_ext (e := (eP D.int D.int)) every29 v32) fun every33 => ?_
          exact Sm.done (b := every33) ⟨_, .inl rfl⟩
    · intro every27
      intro j6
      refine Sm.sq ?_
      refine Sm.set ?_
      refine Sm.m2 ?_
      refine Sm.pu (a := (eL (eL (eP D.int D.int))) ([[], [], [], [], [], every27])) (lst_ok (cons_ok (lst_ok (nil_ok) (show (0 : Nat) ≤ sizeLine by decide)) (cons_ok (lst_ok (nil_ok) (show (0 : Nat) ≤ sizeLine by decide)) (cons_ok (lst_ok (nil_ok) (show (0 : Nat) ≤ sizeLine by decide)) (cons_ok (lst_ok (nil_ok) (show (0 : Nat) ≤ sizeLine by decide)) (cons_ok (lst_ok (nil_ok) (show (0 : Nat) ≤ sizeLine by decide)) (cons_ok (rfl) (nil_ok))))))) (show (6 : Nat) ≤ sizeLine by decide)) ?_
      refine Sm.pu (rfl) ?_
      refine Sm.op (os_ixL _ _) fun found34 => ?_
      refine Sm.sq ?_
      refine Sm.bs (I := fun (z : (List (Int × Int))) (y : Unit) => [some ((eL D.int) hand11), some (D.int count2), some ((eL D.int) left12), some ((eL D.int) spots13), some ((eL (eP D.int D.int)) every27), some (D.int way4), j6, some ((eL (eP D.int D.int)) z), none, none, none]) ?_ ?_
      · refine Sm.fin ?_
        refine Sm.ifp (mB_ok (m2_ok (rfl) (lst_ok (cons_ok (rfl) (cons_ok (rfl) (nil_ok))) (show (2 : Nat) ≤ sizeLine by decide)) (ety_int.inL (by decide) way4 ([(1 : Int), (2 : Int)])))) ?_ ?_
        · intro _
          refine Sm.set ?_
          refine Sm.mLc ?_
          refine Sm.mRg1 ?_
          refine Sm.mCons ?_
          refine Sm.pu (a := D.int (count2 - (1 : Int))) (m2_ok (rfl) (rfl) (sub_ii _ _)) ?_
          refine Sm.pu rfl ?_
          refine Sm.op (os_rg1 _) fun r47 => ?_
          refine Sm.lcO (ex := D.int) (ey := (eP D.int D.int)) (ρ1 := fun (x48 : Int) => [some ((eL D.int) hand11), some (D.int count2), some ((eL D.int) left12), some ((eL D.int) spots13), some ((eL (eP D.int D.int)) every27), some (D.int way4), some (D.int x48), some ((eL (eP D.int D.int)) found34), none, none, none]) (f := fun (x48 : Int) => (ixL spots13 x48).bind fun v53 =>
            (ixL spots13 (x48 + (1 : Int))).bind fun v54 =>
            (ixL spots13 x48).bind fun v55 =>
            (ixL spots13 (x48 + (1 : Int))).bind fun v56 =>
            O.ok ((minI v53 v54), (maxI v55 v56))) (fun x48 => rfl) (fun x48 => rfl) ?_ _ fun found57 => ?_
          · intro x48
            refine Sm.ex ?_
            refine Sm.mTup ?_
            refine Sm.mCons ?_
            refine Sm.mA ?_
            refine Sm.mCons ?_
            refine Sm.m2L ?_
            refine Sm.pu rfl ?_
            refine Sm.pu (rfl) ?_
            refine Sm.pu rfl ?_
            refine Sm.op (os_ixL _ _) fun v53 => ?_
            refine Sm.mCons ?_
            refine Sm.m2L ?_
            refine Sm.pu rfl ?_
            refine Sm.pu (a := D.int (x48 + (1 : Int))) (m2_ok (rfl) (rfl) rfl) ?_
            refine Sm.pu rfl ?_
            refine Sm.op (os_ixL _ _) fun v54 => ?_
            refine Sm.pu rfl ?_
            refine Sm.opp (min_ii _ _) ?_
            refine Sm.mCons ?_
            refine Sm.mA ?_
            refine Sm.mCons ?_
            refine Sm.m2L ?_
            refine Sm.pu rfl ?_
            refine Sm.pu (rfl) ?_
            refine Sm.pu rfl ?_
            refine Sm.op (os_ixL _ _) fun v55 => ?_
            refine Sm.mCons ?_
            refine Sm.m2L ?_
            refine Sm.pu rfl ?_
            refine Sm.pu (a := D.int (x48 + (1 : Int))) (m2_ok (rfl) (rfl) rfl) ?_
            refine Sm.pu rfl ?_
            refine Sm.op (os_ixL _ _) fun v56 => ?_
            refine Sm.pu rfl ?_
            refine Sm.opp (max_ii _ _) ?_
            refine Sm.pu rfl ?_
            refine Sm.opp (d := (eP D.int D.int) ((minI v53 v54), (maxI v55 v56))) (tupIf (n := 2) rfl (by decide)) ?_
            exact Sm.done rfl
          · exact Sm.done (b := found57) ⟨(), rfl⟩
        · intro _
          refine Sm.nx ?_
          exact Sm.done (b := found34) ⟨(), rfl⟩
      · intro found46
        intro _
        refine Sm.sq ?_
        refine Sm.bs (I := fun (z : (List (Int × Int))) (y : Unit) => [some ((eL D.int) hand11), some (D.int count2), some ((eL D.int) left12), some ((eL D.int) spots13), some ((eL (eP D.int D.int)) every27), some (D.int way4), j6, some ((eL (eP D.int D.int)) z), none, none, none]) ?_ ?_
        · refine Sm.fin ?_
          refine Sm.ifp (andB_ok (mB_ok (m2_ok (rfl) (rfl) (eq_ii _ _))) (mB_ok (m2_ok (rfl) (rfl) (gt_ii _ _)))) ?_ ?_
          · intro _
            refine Sm.set ?_
            refine Sm.m2 ?_
            refine Sm.pu (rfl) ?_
            refine Sm.mLst ?_
            refine Sm.mCons ?_
            refine Sm.mTup ?_
            refine Sm.mCons ?_
            refine Sm.mA ?_
            refine Sm.mCons ?_
            refine Sm.m2L ?_
            refine Sm.pu rfl ?_
            refine Sm.pu (rfl) ?_
            refine Sm.pu rfl ?_
            refine Sm.op (os_ixL _ _) fun v64 => ?_
            refine Sm.mCons ?_
            refine Sm.m2L ?_
            refine Sm.pu rfl ?_
            refine Sm.pu (a := D.int (count2 - (1 : Int))) (m2_ok (rfl) (rfl) (sub_ii _ _)) ?_
            refine Sm.pu rfl ?_
            refine Sm.op (os_ixL _ _) fun v65 => ?_
            refine Sm.pu rfl ?_
            refine Sm.opp (min_ii _ _) ?_
            refine Sm.mCons ?_
            refine Sm.mA ?_
            refine Sm.mCons ?_
            refine Sm.m2L ?_
            refine Sm.pu rfl ?_
            refine Sm.pu (rfl) ?_
            refine Sm.pu rfl ?_
            refine Sm.op (os_ixL _ _) fun v66 => ?_
            refine Sm.mCons ?_
            refine Sm.m2L ?_
            refine Sm.pu rfl ?_
            refine Sm.pu (a := D.int (count2 - (1 : Int))) (m2_ok (rfl) (rfl) (sub_ii _ _)) ?_
            refine Sm.pu rfl ?_
            refine Sm.op (os_ixL _ _) fun v67 => ?_
            refine Sm.pu rfl ?_
            refine Sm.opp (max_ii _ _) ?_
            refine Sm.pu rfl ?_
            refine Sm.opp (d := (eP D.int D.int) ((minI v64 v65), (maxI v66 v67))) (tupIf (n := 2) rfl (by decide)) ?_
            refine Sm.pu rfl ?_
            refine Sm.opp (d := (eL (eP D.int D.int)) [((minI v64 v65), (maxI v66 v67))]) (lstIf (n := 1) rfl (by decide)) ?_
            refine Sm.op (os_catL _ _) fun found68 => ?_
            exact Sm.done (b := found68) ⟨(), rfl⟩
          · intro _
            refine Sm.nx ?_
            exact Sm.done (b := found46) ⟨(), rfl⟩
        · intro found63
          intro _
          refine Sm.sq ?_
          refine Sm.bs (I := fun (z : (List (Int × Int))) (y : Unit) => [some ((eL D.int) hand11), some (D.int count2), some ((eL D.int) left12), some ((eL D.int) spots13), some ((eL (eP D.int D.int)) every27), some (D.int way4), j6, some ((eL (eP D.int D.int)) z), none, none, none]) ?_ ?_
          · refine Sm.fin ?_
            refine Sm.ifp (mB_ok (m2_ok (rfl) (rfl) (eq_ii _ _))) ?_ ?_
            · intro _
              refine Sm.set ?_
              refine Sm.mLc ?_
              refine Sm.mIt ?_
              refine Sm.pu (a := (eL D.int) (cutL spots13 (some (1 : Int)) none)) (slL_ok rfl (pt_ok (rfl)) (pn_ok) (sl_l _ _ _)) ?_
              refine Sm.opp (it_l _) ?_
              refine Sm.lcO (ex := D.int) (ey := (eP D.int D.int)) (ρ1 := fun (x76 : Int) => [some ((eL D.int) hand11), some (D.int count2), some ((eL D.int) left12), some ((eL D.int) spots13), some ((eL (eP D.int D.int)) every27), some (D.int way4), j6, some ((eL (eP D.int D.int)) found63), none, some (D.int x76), none]) (f := fun (x76 : Int) => (ixL spots13 (0 : Int)).bind fun v79 =>
                (ixL spots13 (0 : Int)).bind fun v80 =>
                O.ok ((minI v79 x76), (maxI v80 x76))) (fun x76 => rfl) (fun x76 => rfl) ?_ _ fun found81 => ?_
              · intro x76
                refine Sm.ex ?_
                refine Sm.mTup ?_
                refine Sm.mCons ?_
                refine Sm.mA ?_
                refine Sm.mCons ?_
                refine Sm.m2L ?_
                refine Sm.pu rfl ?_
                refine Sm.pu (rfl) ?_
                refine Sm.pu rfl ?_
                refine Sm.op (os_ixL _ _) fun v79 => ?_
                refine Sm.mCons ?_
                refine Sm.pu (rfl) ?_
                refine Sm.pu rfl ?_
                refine Sm.opp (min_ii _ _) ?_
                refine Sm.mCons ?_
                refine Sm.mA ?_
                refine Sm.mCons ?_
                refine Sm.m2L ?_
                refine Sm.pu rfl ?_
                refine Sm.pu (rfl) ?_
                refine Sm.pu rfl ?_
                refine Sm.op (os_ixL _ _) fun v80 => ?_
                refine Sm.mCons ?_
                refine Sm.pu (rfl) ?_
                refine Sm.pu rfl ?_
                refine Sm.opp (max_ii _ _) ?_
                refine Sm.pu rfl ?_
                refine Sm.opp (d := (eP D.int D.int) ((minI v79 x76), (maxI v80 x76))) (tupIf (n := 2) rfl (by decide)) ?_
                exact Sm.done rfl
              · exact Sm.done (b := found81) ⟨(), rfl⟩
            · intro _
              refine Sm.nx ?_
              exact Sm.done (b := found63) ⟨(), rfl⟩
          · intro found75
            intro _
            refine Sm.sq ?_
            refine Sm.bs (I := fun (z : (List Int) × (List (Int × Int))) (y : Unit) => [some ((eL D.int) z.1), some (D.int count2), some ((eL D.int) left12), some ((eL D.int) spots13), some ((eL (eP D.int D.int)) every27), some (D.int way4), j6, some ((eL (eP D.int D.int)) z.2), none, none, none]) ?_ ?_
            · refine Sm.fin ?_
              refine Sm.ifp (mB_ok (m2_ok (rfl) (rfl) (eq_ii _ _))) ?_ ?_
              · intro _
                refine Sm.set ?_
                refine Sm.mLc ?_
                refine Sm.mIt ?_
                refine Sm.pu (rfl) ?_
                refine Sm.opp (it_l _) ?_
                refine Sm.lcW (ex := (eP D.int D.int)) (ey := (eP D.int D.int)) (en := fun (z : (List Int)) => [some ((eL D.int) z), some (D.int count2), some ((eL D.int) left12), some ((eL D.int) spots13), some ((eL (eP D.int D.int)) every27), some (D.int way4), j6, some ((eL (eP D.int D.int)) found75), none, none, none]) (ρ1 := fun (x94 : Int × Int) (z : (List Int)) => [some ((eL D.int) z), some (D.int count2), some ((eL D.int) left12), some ((eL D.int) spots13), some ((eL (eP D.int D.int)) every27), some (D.int way4), j6, some ((eL (eP D.int D.int)) found75), none, none, some ((eP D.int D.int) x94)]) (f := fun (x94 : Int × Int) (hand99 : (List Int)) => (t_law_draw hand99 (3 : Int)).bind fun (v100, hand101) =>
                  if decide (v100 = (0 : Int)) = true then (O.ok (some x94, hand101)) else .ok (none, hand101)) (fun _ _ => rfl) ?_ _ hand11 (fun _ _ h => rsE_b2 (by rfl) h) fun ⟨found102, hand103⟩ => ?_
                · intro x94
                  intro hand99
                  refine Sm.lcUt ?_
                  refine Sm.mB ?_
                  refine Sm.m2 ?_
                  refine Sm.mCallH ?_
                  refine Sm.asc ?_
                  refine Sm.pu rfl ?_
                  refine Sm.mCons ?_
                  refine Sm.pu (rfl) ?_
                  refine Sm.pu rfl ?_
                  refine Sm.chH (q_law_draw hand99 (3 : Int)) rfl (fun _ => trivial) fun ⟨v100, hand101⟩ => ?_
                  refine Sm.pu (rfl) ?_
                  refine Sm.opp (eq_ii _ _) ?_
                  refine Sm.opp rfl ?_
                  refine Sm.lcI (fun _ => ?_) ⟨_, rfl, rfl⟩
                  refine Sm.pu (rfl) ?_
                  exact Sm.done ⟨_, rfl, rfl⟩
                · exact Sm.done (b := (hand103, found102)) ⟨(), rfl⟩
              · intro _
                refine Sm.nx ?_
                exact Sm.done (b := (hand11, found75)) ⟨(), rfl⟩
            · intro z_
              refine Prod.rec (fun hand92 found93 => ?_) z_
              intro _
              refine Sm.ret ?_
              refine Sm.pu (a := (eL (eP D.int D.int)) (srt (pP PyData.int PyData.int) found93)) (a_ok (cons_ok (rfl) nil_ok) ((ety_p ety_int ety_int).srtd srt1_p (by decide) _)) ?_
              exact Sm.done (b := ((srt (pP PyData.int PyData.int) found93), hand92)) ⟨_, rfl, rfl⟩)
end Law
namespace Law
open PySem PySem.Spec PyProof.Rows L2 G
noncomputable def t_law_calls (hand1 : List Int) (count2 : Int) : O ((List Str) × (List Int)) :=
  (O.ok ([("gauge" : Str), ("top" : Str), ("tie" : Str), ("untie" : Str), ("turn" : Str), ("knock" : Str), ("back" : Str), ("shows" : Str), ("all" : Str), ("can" : Str), ("fields" : Str), ("to" : Str)])).bind fun (own3 : List Str) =>
  (O.ok ("abcdefghijklmnopqrstuvwxyz" : Str)).bind fun (letters4 : Str) =>
  (rg1 count2).bind fun r5 =>
  (forN (fun (x56 : Int) ((hand57, found58) : (List Int) × (List Str)) =>
  (t_law_draw hand57 (12 : Int)).bind fun (v59, hand60) =>
  (ixL own3 v59).bind fun word61 =>
  ((t_law_draw hand60 (3 : Int)).bind fun (v80, hand81) =>
  if decide ((0 : Int) < v80) = true then
  ((t_law_draw hand81 (6 : Int)).bind fun (v82, hand83) =>
  (rg1 ((1 : Int) + v82)).bind fun r84 =>
  (lcW (fun (x85 : Int) (hand89 : (List Int)) => (t_law_draw hand89 (26 : Int)).bind fun (v90, hand91) =>
  (ixS letters4 v90).bind fun v92 =>
  O.ok (some v92, hand91)) r84 hand83).bind fun (v93, hand94) =>
  (joinO ("" : Str) v93).bind fun word95 =>
  O.ok (hand94, word95))
  else
  (O.ok (hand81, word61))).bind fun (hand78, word79) =>
  (lcO (fun (x96 : Str) => (slS word79 none (some (5 : Int))).bind fun v99 =>
  (addS v99 x96).bind fun v100 =>
  O.ok v100) (sgs letters4)).bind fun v101 =>
  (catL [word79] v101).bind fun some102 =>
  (lcF (fun (x103 : Str) => (!decide (x103 ∈ found58))) (fun (x103 : Str) => x103) some102).bind fun v104 =>
  (ixL v104 (0 : Int)).bind fun v105 =>
  (appL found58 v105).bind fun found106 =>
  O.ok (hand78, found106)) r5 (hand1, [])).bind fun (hand54, found55) =>
  O.ok ((srt PyData.str found55), hand54)
theorem q_law_calls (hand1 : List Int) (count2 : Int) : FSm MF_f_law_calls [(eL D.int) hand1, D.int count2] (fun (b : (List Str) × (List Int)) => (eL D.str) b.1) (fun (b : (List Str) × (List Int)) => [(eL D.int) b.2]) (t_law_calls hand1 count2) := FSm.mk (show Sm (fun _ => True) (RT (fun (b : (List Str) × (List Int)) => (eL D.str) b.1) (fun (b : (List Str) × (List Int)) => [(eL D.int) b.2]) [0]) (m_f_law_calls [some ((eL D.int) hand1), some (D.int count2), none, none, none, none, none, none, none, none, none]) _ from by
  refine Sm.fin ?_
  refine Sm.sq ?_
  refine Sm.set ?_
  refine Sm.pv (f := (eL D.str)) (a := ([("gauge" : Str), ("top" : Str), ("tie" : Str), ("untie" : Str), ("turn" : Str), ("knock" : Str), ("back" : Str), ("shows" : Str), ("all" : Str), ("can" : Str), ("fields" : Str), ("to" : Str)])) (lst_ok (cons_ok (rfl) (cons_ok (rfl) (cons_ok (rfl) (cons_ok (rfl) (cons_ok (rfl) (cons_ok (rfl) (cons_ok (rfl) (cons_ok (rfl) (cons_ok (rfl) (cons_ok (rfl) (cons_ok (rfl) (cons_ok (rfl) (nil_ok))))))))))))) (show (12 : Nat) ≤ sizeLine by decide)) fun own3 => ?_
  refine Sm.sq ?_
  refine Sm.par ?_
  refine Sm.mCons ?_
  refine Sm.pv (f := D.str) (a := ("abcdefghijklmnopqrstuvwxyz" : Str)) (rfl) fun letters4 => ?_
  refine Sm.mCons ?_
  refine Sm.pu (a := (eL eD) []) (lst_ok (nil_ok) (show (0 : Nat) ≤ sizeLine by decide)) ?_
  refine Sm.pu rfl ?_
  refine Sm.sq ?_
  refine Sm.for ?_
  refine Sm.mRg1 ?_
  refine Sm.mCons ?_
  refine Sm.pu (rfl) ?_
  refine Sm.pu rfl ?_
  refine Sm.op (os_rg1 _) fun r5 => ?_
  refine Sm.bs (I := fun (z : (List Int) × (List Str)) (y : (Option D) × (Option D) × (Option D)) => [some ((eL D.int) z.1), some (D.int count2), some ((eL D.str) own3), some (D.str letters4), some ((eL D.str) z.2), y.1, y.2.1, y.2.2, none, none, none]) ?_ ?_
  · refine Sm.forN (e := D.int) (I := fun (z : (List Int) × (List Str)) (y : (Option D) × (Option D) × (Option D)) => [some ((eL D.int) z.1), some (D.int count2), some ((eL D.str) own3), some (D.str letters4), some ((eL D.str) z.2), y.1, y.2.1, y.2.2, none, none, none]) ?_ _ (hand1, []) (none, none, none)
    · intro x56
      intro z_
      refine Prod.rec (fun hand57 found58 => ?_) z_
      intro j5_6_7
      refine Sm.gp rfl ?_
      refine Sm.fin ?_
      refine Sm.sq ?_
      refine Sm.set ?_
      refine Sm.m2 ?_
      refine Sm.pu (rfl) ?_
      refine Sm.mCallH ?_
      refine Sm.asc ?_
      refine Sm.pu rfl ?_
      refine Sm.mCons ?_
      refine Sm.pu (rfl) ?_
      refine Sm.pu rfl ?_
      refine Sm.chH (q_law_draw hand57 (12 : Int)) rfl (fun _ => trivial) fun ⟨v59, hand60⟩ => ?_
      refine Sm.op (os_ixL _ _) fun word61 => ?_
      refine Sm.sq ?_
      refine Sm.bs (I := fun (z : (List Int) × Str) (y : Unit) => [some ((eL D.int) z.1), some (D.int count2), some ((eL D.str) own3), some (D.str letters4), some ((eL D.str) found58), some (D.int x56), some (D.str z.2), j5_6_7.2.2, none, none, none]) ?_ ?_
      · refine Sm.fin ?_
        refine Sm.ifc ?_
        refine Sm.mB ?_
        refine Sm.m2 ?_
        refine Sm.mCallH ?_
        refine Sm.asc ?_
        refine Sm.pu rfl ?_
        refine Sm.mCons ?_
        refine Sm.pu (rfl) ?_
        refine Sm.pu rfl ?_
        refine Sm.chH (q_law_draw hand60 (3 : Int)) rfl (fun _ => trivial) fun ⟨v80, hand81⟩ => ?_
        refine Sm.pu (rfl) ?_
        refine Sm.opp (gt_ii _ _) ?_
        refine Sm.opp rfl ?_
        refine Sm.ifS ?_ ?_
        · intro _
          refine Sm.set ?_
          refine Sm.mJo ?_
          refine Sm.pu (rfl) ?_
          refine Sm.joK ?_
          refine Sm.mLc ?_
          refine Sm.mRg1 ?_
          refine Sm.mCons ?_
          refine Sm.m2 ?_
          refine Sm.pu (rfl) ?_
          refine Sm.mCallH ?_
          refine Sm.asc ?_
          refine Sm.pu rfl ?_
          refine Sm.mCons ?_
          refine Sm.pu (rfl) ?_
          refine Sm.pu rfl ?_
          refine Sm.chH (q_law_draw hand81 (6 : Int)) rfl (fun _ => trivial) fun ⟨v82, hand83⟩ => ?_
          refine Sm.opp rfl ?_
          refine Sm.pu rfl ?_
          refine Sm.op (os_rg1 _) fun r84 => ?_
          refine Sm.lcW (ex := D.int) (ey := D.str) (en := fun (z : (List Int)) => [some ((eL D.int) z), some (D.int count2), some ((eL D.str) own3), some (D.str letters4), some ((eL D.str) found58), some (D.int x56), some (D.str word61), j5_6_7.2.2, none, none, none]) (ρ1 := fun (x85 : Int) (z : (List Int)) => [some ((eL D.int) z), some (D.int count2), some ((eL D.str) own3), some (D.str letters4), some ((eL D.str) found58), some (D.int x56), some (D.str word61), j5_6_7.2.2, some (D.int x85), none, none]) (f := fun (x85 : Int) (hand89 : (List Int)) => (t_law_draw hand89 (26 : Int)).bind fun (v90, hand91) =>
            (ixS letters4 v90).bind fun v92 =>
            O.ok (some v92, hand91)) (fun _ _ => rfl) ?_ _ hand83 (fun _ _ h => rsE_b2 (by rfl) h) fun ⟨v93, hand94⟩ => ?_
          · intro x85
            intro hand89
            refine Sm.lcUy ?_
            refine Sm.m2 ?_
            refine Sm.pu (rfl) ?_
            refine Sm.mCallH ?_
            refine Sm.asc ?_
            refine Sm.pu rfl ?_
            refine Sm.mCons ?_
            refine Sm.pu (rfl) ?_
            refine Sm.pu rfl ?_
            refine Sm.chH (q_law_draw hand89 (26 : Int)) rfl (fun _ => trivial) fun ⟨v90, hand91⟩ => ?_
            refine Sm.op (os_ixS _ _) fun v92 => ?_
            exact Sm.done ⟨_, rfl, rfl⟩
          · refine Sm.op (os_joinL _ _) fun word95 => ?_
            exact Sm.done (b := (hand94, word95)) ⟨(), rfl⟩
        · intro _
          refine Sm.nx ?_
          exact Sm.done (b := (hand81, word61)) ⟨(), rfl⟩
      · intro z_
        refine Prod.rec (fun hand78 word79 => ?_) z_
        intro _
        refine Sm.sq ?_
        refine Sm.set ?_
        refine Sm.m2 ?_
        refine Sm.pu (a := (eL D.str) [word79]) (lst_ok (cons_ok (rfl) (nil_ok)) (show (1 : Nat) ≤ sizeLine by decide)) ?_
        refine Sm.mLc ?_
        refine Sm.mIt ?_
        refine Sm.pu (rfl) ?_
        refine Sm.opp (it_s _) ?_
        refine Sm.lcO (ex := D.str) (ey := D.str) (ρ1 := fun (x96 : Str) => [some ((eL D.int) hand78), some (D.int count2), some ((eL D.str) own3), some (D.str letters4), some ((eL D.str) found58), some (D.int x56), some (D.str word79), j5_6_7.2.2, none, some (D.str x96), none]) (f := fun (x96 : Str) => (slS word79 none (some (5 : Int))).bind fun v99 =>
          (addS v99 x96).bind fun v100 =>
          O.ok v100) (fun x96 => rfl) (fun x96 => rfl) ?_ _ fun v101 => ?_
        · intro x96
          refine Sm.ex ?_
          refine Sm.m2 ?_
          refine Sm.mSl ?_
          refine Sm.pu (rfl) ?_
          refine Sm.rt ?_
          refine Sm.mPt ?_
          refine Sm.pu (rfl) ?_
          refine Sm.opp rfl ?_
          refine Sm.op (os_slS _ _ _) fun v99 => ?_
          refine Sm.pu (rfl) ?_
          refine Sm.op (os_addS _ _) fun v100 => ?_
          exact Sm.done rfl
        · refine Sm.op (os_catL _ _) fun some102 => ?_
          refine Sm.exp ?_
          refine Sm.mMl rfl ?_
          refine Sm.mCons ?_
          refine Sm.m2 ?_
          refine Sm.mLc ?_
          refine Sm.mIt ?_
          refine Sm.pu (rfl) ?_
          refine Sm.opp (it_l _) ?_
          refine Sm.lcF (ex := D.str) (ey := D.str) (ρ1 := fun (x103 : Str) => [some ((eL D.int) hand78), some (D.int count2), some ((eL D.str) own3), some (D.str letters4), some ((eL D.str) found58), some (D.int x56), some (D.str word79), some ((eL D.str) some102), none, none, some (D.str x103)]) (b := fun (x103 : Str) => (!decide (x103 ∈ found58))) (f := fun (x103 : Str) => x103) (fun x103 => rfl) (fun x103 => rfl) ?_ ?_ _ fun v104 => ?_
          · exact fun x103 => mB_ok (m2_ok (rfl) (rfl) (ety_str.ninL (by decide) x103 found58))
          · exact fun x103 => rfl
          · refine Sm.pu (rfl) ?_
            refine Sm.op (os_ixL _ _) fun v105 => ?_
            refine Sm.pu rfl ?_
            refine Sm.mlK (f := fun b => (D.non, (eL D.str) b)) (d := (eL D.str) found58) rfl (os_app (e := D.str) found58 v105) fun found106 => ?_
            exact Sm.done (b := (hand78, found106)) ⟨⟨_, _, _⟩, .inl rfl⟩
  · intro z_
    refine Prod.rec (fun hand54 found55 => ?_) z_
    intro j5_6_7
    refine Sm.ret ?_
    refine Sm.pu (a := (eL D.str) (srt PyData.str found55)) (a_ok (cons_ok (rfl) nil_ok) (ety_str.srtd srt1_str (by decide) _)) ?_
    exact Sm.done (b := ((srt PyData.str found55), hand54)) ⟨_, rfl, rfl⟩)
end Law
namespace Law
open PySem PySem.Spec PyProof.Rows L2 G
noncomputable def t_law_near (count1 : Int) (pairs2 : List (Int × Int)) : O ((List (List Int))) :=
  (rg1 count1).bind fun r3 =>
  (lcO (fun (x4 : Int) => (lcF (fun (x10 : Int × Int) => decide (x10.1 = x4)) (fun (x10 : Int × Int) => x10.2) pairs2).bind fun v11 =>
  (lcF (fun (x12 : Int × Int) => decide (x12.2 = x4)) (fun (x12 : Int × Int) => x12.1) pairs2).bind fun v13 =>
  (catL v11 v13).bind fun v14 =>
  O.ok (srt PyData.int v14)) r3).bind fun v15 =>
  O.ok v15
theorem q_law_near (count1 : Int) (pairs2 : List (Int × Int)) : FSm MF_f_law_near [D.int count1, (eL (eP D.int D.int)) pairs2] (fun (b : (List (List Int))) => (eL (eL D.int)) b) (fun (_ : (List (List Int))) => []) (t_law_near count1 pairs2) := FSm.mk (show Sm (fun _ => True) (RT (fun (b : (List (List Int))) => (eL (eL D.int)) b) (fun (_ : (List (List Int))) => []) []) (m_f_law_near [some (D.int count1), some ((eL (eP D.int D.int)) pairs2), none, none, none]) _ from by
  refine Sm.fin ?_
  refine Sm.ret ?_
  refine Sm.mLc ?_
  refine Sm.mRg1 ?_
  refine Sm.mCons ?_
  refine Sm.pu (rfl) ?_
  refine Sm.pu rfl ?_
  refine Sm.op (os_rg1 _) fun r3 => ?_
  refine Sm.lcO (ex := D.int) (ey := (eL D.int)) (ρ1 := fun (x4 : Int) => [some (D.int count1), some ((eL (eP D.int D.int)) pairs2), some (D.int x4), none, none]) (f := fun (x4 : Int) => (lcF (fun (x10 : Int × Int) => decide (x10.1 = x4)) (fun (x10 : Int × Int) => x10.2) pairs2).bind fun v11 =>
    (lcF (fun (x12 : Int × Int) => decide (x12.2 = x4)) (fun (x12 : Int × Int) => x12.1) pairs2).bind fun v13 =>
    (catL v11 v13).bind fun v14 =>
    O.ok (srt PyData.int v14)) (fun x4 => rfl) (fun x4 => rfl) ?_ _ fun v15 => ?_
  · intro x4
    refine Sm.ex ?_
    refine Sm.mA ?_
    refine Sm.mCons ?_
    refine Sm.m2 ?_
    refine Sm.mLc ?_
    refine Sm.mIt ?_
    refine Sm.pu (rfl) ?_
    refine Sm.opp (it_l _) ?_
    refine Sm.lcF (ex := (eP D.int D.int)) (ey := D.int) (ρ1 := fun (x10 : Int × Int) => [some (D.int count1), some ((eL (eP D.int D.int)) pairs2), some (D.int x4), some (D.int x10.1), some (D.int x10.2)]) (b := fun (x10 : Int × Int) => decide (x10.1 = x4)) (f := fun (x10 : Int × Int) => x10.2) (fun x10 => rfl) (fun x10 => rfl) ?_ ?_ _ fun v11 => ?_
    · exact fun x10 => mB_ok (m2_ok (rfl) (rfl) (eq_ii _ _))
    · exact fun x10 => rfl
    · refine Sm.mLc ?_
      refine Sm.mIt ?_
      refine Sm.pu (rfl) ?_
      refine Sm.opp (it_l _) ?_
      refine Sm.lcF (ex := (eP D.int D.int)) (ey := D.int) (ρ1 := fun (x12 : Int × Int) => [some (D.int count1), some ((eL (eP D.int D.int)) pairs2), some (D.int x4), some (D.int x12.1), some (D.int x12.2)]) (b := fun (x12 : Int × Int) => decide (x12.2 = x4)) (f := fun (x12 : Int × Int) => x12.1) (fun x12 => rfl) (fun x12 => rfl) ?_ ?_ _ fun v13 => ?_
      · exact fun x12 => mB_ok (m2_ok (rfl) (rfl) (eq_ii _ _))
      · exact fun x12 => rfl
      · refine Sm.op (os_catL _ _) fun v14 => ?_
        refine Sm.pu rfl ?_
        refine Sm.opp (ety_int.srtd srt1_int (by decide) _) ?_
        exact Sm.done rfl
  · exact Sm.done (b := v15) ⟨_, rfl, rfl⟩)
end Law
namespace Law
open PySem PySem.Spec PyProof.Rows L2 G
noncomputable def t_law_moor_small (hand1 : List Int) (most2 : Int) : O (((List Str) × (List Int) × (List (List Int)) × (List (Int × Int))) × (List Int)) :=
  (t_law_draw hand1 (6 : Int)).bind fun (v3, hand4) =>
  (rg1 ((1 : Int) + v3)).bind fun r5 =>
  (forN (fun (x26 : Int) ((hand27, highs28, size29) : (List Int) × (List Int) × Int) =>
  (t_law_draw hand27 (4 : Int)).bind fun (v30, hand31) =>
  (t_law_draw hand31 (3 : Int)).bind fun (v32, hand33) =>
  (t_law_draw hand33 (10 : Int)).bind fun (v34, hand35) =>
  (t_law_draw hand35 (3 : Int)).bind fun (v36, hand37) =>
  (ixL ([v30, ((1 : Int) + v32), v34]) v36).bind fun high38 =>
  ((mulI size29 (high38 + (1 : Int))).bind fun v44 =>
  if decide (v44 ≤ most2) = true then
  ((catL highs28 [high38]).bind fun highs45 =>
  (mulI size29 (high38 + (1 : Int))).bind fun size46 =>
  O.ok (highs45, size46))
  else
  (O.ok (highs28, size29))).bind fun (highs42, size43) =>
  O.ok (hand37, highs42, size43)) r5 (hand4, [], (1 : Int))).bind fun (hand23, highs24, size25) =>
  (t_law_pairs hand23 (highs24.length : Int)).bind fun (pairs47, hand48) =>
  (t_law_calls hand48 (highs24.length : Int)).bind fun (v49, hand50) =>
  (t_law_near (highs24.length : Int) pairs47).bind fun v51 =>
  O.ok ((v49, highs24, v51, pairs47), hand50)
theorem q_law_moor_small (hand1 : List Int) (most2 : Int) : FSm MF_f_law_moor_small [(eL D.int) hand1, D.int most2] (fun (b : ((List Str) × (List Int) × (List (List Int)) × (List (Int × Int))) × (List Int)) => (eP4 (eL D.str) (eT D.int) (eL (eL D.int)) (eL (eP D.int D.int))) b.1) (fun (b : ((List Str) × (List Int) × (List (List Int)) × (List (Int × Int))) × (List Int)) => [(eL D.int) b.2]) (t_law_moor_small hand1 most2) := FSm.mk (show Sm (fun _ => True) (RT (fun (b : ((List Str) × (List Int) × (List (List Int)) × (List (Int × Int))) × (List Int)) => (eP4 (eL D.str) (eT D.int) (eL (eL D.int)) (eL (eP D.int D.int))) b.1) (fun (b : ((List Str) × (List Int) × (List (List Int)) × (List (Int × Int))) × (List Int)) => [(eL D.int) b.2]) [0]) (m_f_law_moor_small [some ((eL D.int) hand1), some (D.int most2), none, none, none, none, none]) _ from by
  refine Sm.fin ?_
  refine Sm.sq ?_
  refine Sm.par ?_
  refine Sm.mCons ?_
  refine Sm.pu (a := (eL eD) []) (lst_ok (nil_ok) (show (0 : Nat) ≤ sizeLine by decide)) ?_
  refine Sm.mCons ?_
  refine Sm.pu (rfl) ?_
  refine Sm.pu rfl ?_
  refine Sm.sq ?_
  refine Sm.for ?_
  refine Sm.mRg1 ?_
  refine Sm.mCons ?_
  refine Sm.m2 ?_
  refine Sm.pu (rfl) ?_
  refine Sm.mCallH ?_
  refine Sm.asc ?_
  refine Sm.pu rfl ?_
  refine Sm.mCons ?_
  refine Sm.pu (rfl) ?_
  refine Sm.pu rfl ?_
  refine Sm.chH (q_law_draw hand1 (6 : Int)) rfl (fun _ => trivial) fun ⟨v3, hand4⟩ => ?_
  refine Sm.opp rfl ?_
  refine Sm.pu rfl ?_
  refine Sm.op (os_rg1 _) fun r5 => ?_
  refine Sm.bs (I := fun (z : (List Int) × (List Int) × Int) (y : (Option D) × (Option D)) => [some ((eL D.int) z.1), some (D.int most2), some ((eL D.int) z.2.1), some (D.int z.2.2), y.1, y.2, none]) ?_ ?_
  · refine Sm.forN (e := D.int) (I := fun (z : (List Int) × (List Int) × Int) (y : (Option D) × (Option D)) => [some ((eL D.int) z.1), some (D.int most2), some ((eL D.int) z.2.1), some (D.int z.2.2), y.1, y.2, none]) ?_ _ (hand4, [], (1 : Int)) (none, none)
    · intro x26
      intro z_
      refine Prod.rec (fun hand27 z_ => ?_) z_
      refine Prod.rec (fun highs28 size29 => ?_) z_
      intro j4_5
      refine Sm.gp rfl ?_
      refine Sm.fin ?_
      refine Sm.sq ?_
      refine Sm.set ?_
      refine Sm.m2 ?_
      refine Sm.mLst ?_
      refine Sm.mCons ?_
      refine Sm.mCallH ?_
      refine Sm.asc ?_
      refine Sm.pu rfl ?_
      refine Sm.mCons ?_
      refine Sm.pu (rfl) ?_
      refine Sm.pu rfl ?_
      refine Sm.chH (q_law_draw hand27 (4 : Int)) rfl (fun _ => trivial) fun ⟨v30, hand31⟩ => ?_
      refine Sm.mCons ?_
      refine Sm.m2 ?_
      refine Sm.pu (rfl) ?_
      refine Sm.mCallH ?_
      refine Sm.asc ?_
      refine Sm.pu rfl ?_
      refine Sm.mCons ?_
      refine Sm.pu (rfl) ?_
      refine Sm.pu rfl ?_
      refine Sm.chH (q_law_draw hand31 (3 : Int)) rfl (fun _ => trivial) fun ⟨v32, hand33⟩ => ?_
      refine Sm.opp rfl ?_
      refine Sm.mCons ?_
      refine Sm.mCallH ?_
      refine Sm.asc ?_
      refine Sm.pu rfl ?_
      refine Sm.mCons ?_
      refine Sm.pu (rfl) ?_
      refine Sm.pu rfl ?_
      refine Sm.chH (q_law_draw hand33 (10 : Int)) rfl (fun _ => trivial) fun ⟨v34, hand35⟩ => ?_
      refine Sm.pu rfl ?_
      refine Sm.opp (d := (eL D.int) [v30, ((1 : Int) + v32), v34]) (lstIf (n := 3) rfl (by decide)) ?_
      refine Sm.mCallH ?_
      refine Sm.asc ?_
      refine Sm.pu rfl ?_
      refine Sm.mCons ?_
      refine Sm.pu (rfl) ?_
      refine Sm.pu rfl ?_
      refine Sm.chH (q_law_draw hand35 (3 : Int)) rfl (fun _ => trivial) fun ⟨v36, hand37⟩ => ?_
      refine Sm.op (os_ixL _ _) fun high38 => ?_
      refine Sm.bs (I := fun (z : (List Int) × Int) (y : Unit) => [some ((eL D.int) hand37), some (D.int most2), some ((eL D.int) z.1), some (D.int z.2), some (D.int x26), some (D.int high38), none]) ?_ ?_
      · refine Sm.fin ?_
        refine Sm.ifc ?_
        refine Sm.mB ?_
        refine Sm.m2 ?_
        refine Sm.m2 ?_
        refine Sm.pu (rfl) ?_
        refine Sm.pu (a := D.int (high38 + (1 : Int))) (m2_ok (rfl) (rfl) rfl) ?_
        refine Sm.op (os_mul _ _) fun v44 => ?_
        refine Sm.pu (rfl) ?_
        refine Sm.opp (le_ii _ _) ?_
        refine Sm.opp rfl ?_
        refine Sm.ifS ?_ ?_
        · intro _
          refine Sm.par ?_
          refine Sm.mCons ?_
          refine Sm.m2 ?_
          refine Sm.pu (rfl) ?_
          refine Sm.pu (a := (eL D.int) [high38]) (lst_ok (cons_ok (rfl) (nil_ok)) (show (1 : Nat) ≤ sizeLine by decide)) ?_
          refine Sm.op (os_catL _ _) fun highs45 => ?_
          refine Sm.mCons ?_
          refine Sm.m2 ?_
          refine Sm.pu (rfl) ?_
          refine Sm.pu (a := D.int (high38 + (1 : Int))) (m2_ok (rfl) (rfl) rfl) ?_
          refine Sm.op (os_mul _ _) fun size46 => ?_
          refine Sm.pu rfl ?_
          exact Sm.done (b := (highs45, size46)) ⟨(), rfl⟩
        · intro _
          refine Sm.nx ?_
          exact Sm.done (b := (highs28, size29)) ⟨(), rfl⟩
      · intro z_
        refine Prod.rec (fun highs42 size43 => ?_) z_
        intro _
        exact Sm.done (b := (hand37, highs42, size43)) ⟨⟨_, _⟩, .inl rfl⟩
  · intro z_
    refine Prod.rec (fun hand23 z_ => ?_) z_
    refine Prod.rec (fun highs24 size25 => ?_) z_
    intro j4_5
    refine Sm.sq ?_
    refine Sm.set ?_
    refine Sm.mCallH ?_
    refine Sm.asc ?_
    refine Sm.pu rfl ?_
    refine Sm.mCons ?_
    refine Sm.pu (a_ok (cons_ok (rfl) nil_ok) (len_l _)) ?_
    refine Sm.pu rfl ?_
    refine Sm.chH (q_law_pairs hand23 (highs24.length : Int)) rfl (fun _ => trivial) fun ⟨pairs47, hand48⟩ => ?_
    refine Sm.ret ?_
    refine Sm.mTup ?_
    refine Sm.mCons ?_
    refine Sm.mCallH ?_
    refine Sm.asc ?_
    refine Sm.pu rfl ?_
    refine Sm.mCons ?_
    refine Sm.pu (a_ok (cons_ok (rfl) nil_ok) (len_l _)) ?_
    refine Sm.pu rfl ?_
    refine Sm.chH (q_law_calls hand48 (highs24.length : Int)) rfl (fun _ => trivial) fun ⟨v49, hand50⟩ => ?_
    refine Sm.mCons ?_
    refine Sm.pu (a := (eT D.int) highs24) (a_ok (cons_ok (rfl) nil_ok) (tuple_l _)) ?_
    refine Sm.mCons ?_
    refine Sm.mCkd ?_
    refine Sm.mCons ?_
    refine Sm.pu (a_ok (cons_ok (rfl) nil_ok) (len_l _)) ?_
    refine Sm.mCons ?_
    refine Sm.pu (rfl) ?_
    refine Sm.pu rfl ?_
    refine Sm.pu rfl ?_
    refine Sm.ckK (q_law_near (highs24.length : Int) pairs47) ⟨rfl, rfl, rfl⟩ rfl trivial fun v51 => ?_
    refine Sm.mCons ?_
    refine Sm.pu (rfl) ?_
    refine Sm.pu rfl ?_
    refine Sm.opp (d := (eP4 (eL D.str) (eT D.int) (eL (eL D.int)) (eL (eP D.int D.int))) (v49, highs24, v51, pairs47)) (tupIf (n := 4) rfl (by decide)) ?_
    exact Sm.done (b := ((v49, highs24, v51, pairs47), hand50)) ⟨_, rfl, rfl⟩)
end Law
namespace Law
open PySem PySem.Spec PyProof.Rows L2 G
noncomputable def t_law_handed (calls1 : List Str) (highs2 : List Int) (pairs3 : List (Int × Int)) : O (((List (Str × Int)) × (List (Str × Str)))) :=
  (lcO (fun (x4 : Int × Int) => (ixL calls1 x4.1).bind fun v7 =>
  (ixL calls1 x4.2).bind fun v8 =>
  O.ok (v7, v8)) pairs3).bind fun v9 =>
  (lcM (fun (x10 : Str × Int) => (x10.1, x10.2)) (calls1.zip highs2)).bind fun v11 =>
  O.ok (v11, v9)
theorem q_law_handed (calls1 : List Str) (highs2 : List Int) (pairs3 : List (Int × Int)) : FSm MF_f_law_handed [(eL D.str) calls1, (eT D.int) highs2, (eL (eP D.int D.int)) pairs3] (fun (b : ((List (Str × Int)) × (List (Str × Str)))) => (eP (eT (eP D.str D.int)) (eT (eP D.str D.str))) b) (fun (_ : ((List (Str × Int)) × (List (Str × Str)))) => []) (t_law_handed calls1 highs2 pairs3) := FSm.mk (show Sm (fun _ => True) (RT (fun (b : ((List (Str × Int)) × (List (Str × Str)))) => (eP (eT (eP D.str D.int)) (eT (eP D.str D.str))) b) (fun (_ : ((List (Str × Int)) × (List (Str × Str)))) => []) []) (m_f_law_handed [some ((eL D.str) calls1), some ((eT D.int) highs2), some ((eL (eP D.int D.int)) pairs3), none, none, none, none, none]) _ from by
  refine Sm.fin ?_
  refine Sm.sq ?_
  refine Sm.set ?_
  refine Sm.mA ?_
  refine Sm.mCons ?_
  refine Sm.mLc ?_
  refine Sm.mIt ?_
  refine Sm.pu (rfl) ?_
  refine Sm.opp (it_l _) ?_
  refine Sm.lcO (ex := (eP D.int D.int)) (ey := (eP D.str D.str)) (ρ1 := fun (x4 : Int × Int) => [some ((eL D.str) calls1), some ((eT D.int) highs2), some ((eL (eP D.int D.int)) pairs3), none, some (D.int x4.1), some (D.int x4.2), none, none]) (f := fun (x4 : Int × Int) => (ixL calls1 x4.1).bind fun v7 =>
    (ixL calls1 x4.2).bind fun v8 =>
    O.ok (v7, v8)) (fun x4 => rfl) (fun x4 => rfl) ?_ _ fun v9 => ?_
  · intro x4
    refine Sm.ex ?_
    refine Sm.mTup ?_
    refine Sm.mCons ?_
    refine Sm.m2 ?_
    refine Sm.pu (rfl) ?_
    refine Sm.pu (rfl) ?_
    refine Sm.op (os_ixL _ _) fun v7 => ?_
    refine Sm.mCons ?_
    refine Sm.m2 ?_
    refine Sm.pu (rfl) ?_
    refine Sm.pu (rfl) ?_
    refine Sm.op (os_ixL _ _) fun v8 => ?_
    refine Sm.pu rfl ?_
    refine Sm.opp (d := (eP D.str D.str) (v7, v8)) (tupIf (n := 2) rfl (by decide)) ?_
    exact Sm.done rfl
  · refine Sm.pu rfl ?_
    refine Sm.opp (tuple_l _) ?_
    refine Sm.ret ?_
    refine Sm.mTup ?_
    refine Sm.mCons ?_
    refine Sm.mA ?_
    refine Sm.mCons ?_
    refine Sm.mLc ?_
    refine Sm.mZp ?_
    refine Sm.mCons ?_
    refine Sm.pu (rfl) ?_
    refine Sm.mCons ?_
    refine Sm.pu (rfl) ?_
    refine Sm.pu rfl ?_
    refine Sm.opp (zp_fin (sq_l _) (sq_t _)) ?_
    refine Sm.lcM (ex := (eP D.str D.int)) (ey := (eP D.str D.int)) (ρ1 := fun (x10 : Str × Int) => [some ((eL D.str) calls1), some ((eT D.int) highs2), some ((eL (eP D.int D.int)) pairs3), some ((eT (eP D.str D.str)) v9), none, none, some (D.str x10.1), some (D.int x10.2)]) (f := fun (x10 : Str × Int) => (x10.1, x10.2)) (fun x10 => rfl) (fun x10 => rfl) ?_ _ fun v11 => ?_
    · exact fun x10 => tup_ok (cons_ok (rfl) (cons_ok (rfl) (nil_ok))) (show (2 : Nat) ≤ sizeLine by decide)
    · refine Sm.pu rfl ?_
      refine Sm.opp (tuple_l _) ?_
      refine Sm.mCons ?_
      refine Sm.pu (rfl) ?_
      refine Sm.pu rfl ?_
      refine Sm.opp (d := (eP (eT (eP D.str D.int)) (eT (eP D.str D.str))) (v11, v9)) (tupIf (n := 2) rfl (by decide)) ?_
      exact Sm.done (b := (v11, v9)) ⟨_, rfl, rfl⟩)
end Law
namespace Law
open PySem PySem.Spec PyProof.Rows L2 G
noncomputable def t_law_sat (hand1 : List Int) (highs2 : List Int) : O ((List Int) × (List Int)) :=
  (lcM (fun (x3 : Int) => (x3.fdiv (2 : Int))) highs2).bind fun v4 =>
  (catL ([(0 : Int)]) v4).bind fun v5 =>
  (maxO v5).bind fun v6 =>
  (t_law_draw hand1 ((1 : Int) + v6)).bind fun (v7, hand8) =>
  (t_law_draw hand8 (4 : Int)).bind fun (thin9, hand10) =>
  (forN (fun (x26 : Int) ((hand27, found28) : (List Int) × (List Int)) =>
  (fdI x26 ((1 : Int) + v7)).bind fun v29 =>
  (t_law_draw hand27 (v29 + (1 : Int))).bind fun (v30, hand31) =>
  (mulI ((1 : Int) + v7) v30).bind fun v32 =>
  (t_law_draw hand31 (x26 + (1 : Int))).bind fun (v33, hand34) =>
  (t_law_draw hand34 (4 : Int)).bind fun (v35, hand36) =>
  (ixL ([x26, v32, v33, (minI x26 ((1 : Int) + v7))]) v35).bind fun pick37 =>
  (t_law_draw hand36 (5 : Int)).bind fun (v38, hand39) =>
  (if decide (thin9 ≤ v38) = true then (O.ok pick37) else (O.ok (0 : Int))).bind fun v40 =>
  (appL found28 v40).bind fun found41 =>
  O.ok (hand39, found41)) highs2 (hand10, [])).bind fun (hand24, found25) =>
  O.ok (found25, hand24)
theorem q_law_sat (hand1 : List Int) (highs2 : List Int) : FSm MF_f_law_sat [(eL D.int) hand1, (eT D.int) highs2] (fun (b : (List Int) × (List Int)) => (eT D.int) b.1) (fun (b : (List Int) × (List Int)) => [(eL D.int) b.2]) (t_law_sat hand1 highs2) := FSm.mk (show Sm (fun _ => True) (RT (fun (b : (List Int) × (List Int)) => (eT D.int) b.1) (fun (b : (List Int) × (List Int)) => [(eL D.int) b.2]) [0]) (m_f_law_sat [some ((eL D.int) hand1), some ((eT D.int) highs2), none, none, none, none, none, none]) _ from by
  refine Sm.fin ?_
  refine Sm.sq ?_
  refine Sm.par ?_
  refine Sm.mCons ?_
  refine Sm.pu (a := (eL eD) []) (lst_ok (nil_ok) (show (0 : Nat) ≤ sizeLine by decide)) ?_
  refine Sm.mCons ?_
  refine Sm.m2 ?_
  refine Sm.pu (rfl) ?_
  refine Sm.mCallH ?_
  refine Sm.asc ?_
  refine Sm.pu rfl ?_
  refine Sm.mCons ?_
  refine Sm.m2 ?_
  refine Sm.pu (rfl) ?_
  refine Sm.mA ?_
  refine Sm.mCons ?_
  refine Sm.m2 ?_
  refine Sm.pu (a := (eL D.int) ([(0 : Int)])) (lst_ok (cons_ok (rfl) (nil_ok)) (show (1 : Nat) ≤ sizeLine by decide)) ?_
  refine Sm.mLc ?_
  refine Sm.mIt ?_
  refine Sm.pu (rfl) ?_
  refine Sm.opp (it_t _) ?_
  refine Sm.lcM (ex := D.int) (ey := D.int) (ρ1 := fun (x3 : Int) => [some ((eL D.int) hand1), some ((eT D.int) highs2), none, none, none, some (D.int x3), none, none]) (f := fun (x3 : Int) => (x3.fdiv (2 : Int))) (fun x3 => rfl) (fun x3 => rfl) ?_ _ fun v4 => ?_
  · exact fun x3 => m2_ok (rfl) (rfl) (fd_ii (j := 2) ⟨by decide, by decide⟩)
  · refine Sm.op (os_catL _ _) fun v5 => ?_
    refine Sm.pu rfl ?_
    refine Sm.op (os_max _) fun v6 => ?_
    refine Sm.opp rfl ?_
    refine Sm.pu rfl ?_
    refine Sm.chH (q_law_draw hand1 ((1 : Int) + v6)) rfl (fun _ => trivial) fun ⟨v7, hand8⟩ => ?_
    refine Sm.opp rfl ?_
    refine Sm.mCons ?_
    refine Sm.mCallH ?_
    refine Sm.asc ?_
    refine Sm.pu rfl ?_
    refine Sm.mCons ?_
    refine Sm.pu (rfl) ?_
    refine Sm.pu rfl ?_
    refine Sm.chH (q_law_draw hand8 (4 : Int)) rfl (fun _ => trivial) fun ⟨thin9, hand10⟩ => ?_
    refine Sm.pu rfl ?_
    refine Sm.sq ?_
    refine Sm.for ?_
    refine Sm.mIt ?_
    refine Sm.pu (rfl) ?_
    refine Sm.opp (it_t _) ?_
    refine Sm.bs (I := fun (z : (List Int) × (List Int)) (y : (Option D) × (Option D) × (Option D)) => [some ((eL D.int) z.1), some ((eT D.int) highs2), some ((eL D.int) z.2), some (D.int ((1 : Int) + v7)), some (D.int thin9), y.1, y.2.1, y.2.2]) ?_ ?_
    · refine Sm.forN (e := D.int) (I := fun (z : (List Int) × (List Int)) (y : (Option D) × (Option D) × (Option D)) => [some ((eL D.int) z.1), some ((eT D.int) highs2), some ((eL D.int) z.2), some (D.int ((1 : Int) + v7)), some (D.int thin9), y.1, y.2.1, y.2.2]) ?_ _ (hand10, []) (none, none, none)
      · intro x26
        intro z_
        refine Prod.rec (fun hand27 found28 => ?_) z_
        intro j5_6_7
        refine Sm.gp rfl ?_
        refine Sm.fin ?_
        refine Sm.sq ?_
        refine Sm.set ?_
        refine Sm.mLst ?_
        refine Sm.mCons ?_
        refine Sm.pu (rfl) ?_
        refine Sm.mCons ?_
        refine Sm.m2 ?_
        refine Sm.pu (rfl) ?_
        refine Sm.mCallH ?_
        refine Sm.asc ?_
        refine Sm.pu rfl ?_
        refine Sm.mCons ?_
        refine Sm.m2 ?_
        refine Sm.m2 ?_
        refine Sm.pu (rfl) ?_
        refine Sm.pu (rfl) ?_
        refine Sm.op (os_fd _ _) fun v29 => ?_
        refine Sm.pu (rfl) ?_
        refine Sm.opp rfl ?_
        refine Sm.pu rfl ?_
        refine Sm.chH (q_law_draw hand27 (v29 + (1 : Int))) rfl (fun _ => trivial) fun ⟨v30, hand31⟩ => ?_
        refine Sm.op (os_mul _ _) fun v32 => ?_
        refine Sm.mCons ?_
        refine Sm.mCallH ?_
        refine Sm.asc ?_
        refine Sm.pu rfl ?_
        refine Sm.mCons ?_
        refine Sm.pu (m2_ok (rfl) (rfl) rfl) ?_
        refine Sm.pu rfl ?_
        refine Sm.chH (q_law_draw hand31 (x26 + (1 : Int))) rfl (fun _ => trivial) fun ⟨v33, hand34⟩ => ?_
        refine Sm.mCons ?_
        refine Sm.pu (a := D.int (minI x26 ((1 : Int) + v7))) (a_ok (cons_ok (rfl) (cons_ok (rfl) nil_ok)) (min_ii _ _)) ?_
        refine Sm.pu rfl ?_
        refine Sm.opp (d := (eL D.int) [x26, v32, v33, (minI x26 ((1 : Int) + v7))]) (lstIf (n := 4) rfl (by decide)) ?_
        refine Sm.sq ?_
        refine Sm.set ?_
        refine Sm.m2 ?_
        refine Sm.pu (rfl) ?_
        refine Sm.mCallH ?_
        refine Sm.asc ?_
        refine Sm.pu rfl ?_
        refine Sm.mCons ?_
        refine Sm.pu (rfl) ?_
        refine Sm.pu rfl ?_
        refine Sm.chH (q_law_draw hand34 (4 : Int)) rfl (fun _ => trivial) fun ⟨v35, hand36⟩ => ?_
        refine Sm.op (os_ixL _ _) fun pick37 => ?_
        refine Sm.exp ?_
        refine Sm.mMl rfl ?_
        refine Sm.mCons ?_
        refine Sm.mIf ?_
        refine Sm.mB ?_
        refine Sm.m2 ?_
        refine Sm.mCallH ?_
        refine Sm.asc ?_
        refine Sm.pu rfl ?_
        refine Sm.mCons ?_
        refine Sm.pu (rfl) ?_
        refine Sm.pu rfl ?_
        refine Sm.chH (q_law_draw hand36 (5 : Int)) rfl (fun _ => trivial) fun ⟨v38, hand39⟩ => ?_
        refine Sm.pu (rfl) ?_
        refine Sm.opp (ge_ii _ _) ?_
        refine Sm.opp rfl ?_
        refine Sm.bd (f := D.int) (g := fun _ => [some ((eL D.int) hand39), some ((eT D.int) highs2), some ((eL D.int) found28), some (D.int ((1 : Int) + v7)), some (D.int thin9), some (D.int x26), some ((eL D.int) ([x26, v32, v33, (minI x26 ((1 : Int) + v7))])), some (D.int pick37)]) ?_ fun v40 => ?_
        · refine Sm.ifK ?_ ?_
          · intro _
            refine Sm.ex ?_
            refine Sm.pu (rfl) ?_
            exact Sm.done rfl
          · intro _
            refine Sm.ex ?_
            refine Sm.pu (rfl) ?_
            exact Sm.done rfl
        · refine Sm.pu rfl ?_
          refine Sm.mlK (f := fun b => (D.non, (eL D.int) b)) (d := (eL D.int) found28) rfl (os_app (e := D.int) found28 v40) fun found41 => ?_
          exact Sm.done (b := (hand39, found41)) ⟨⟨_, _, _⟩, .inl rfl⟩
    · intro z_
      refine Prod.rec (fun hand24 found25 => ?_) z_
      intro j5_6_7
      refine Sm.ret ?_
      refine Sm.pu (a := (eT D.int) found25) (a_ok (cons_ok (rfl) nil_ok) (tuple_l _)) ?_
      exact Sm.done (b := (found25, hand24)) ⟨_, rfl, rfl⟩)
end Law
namespace Law
open PySem PySem.Spec PyProof.Rows L2 G
noncomputable def t_law_near_sats (highs1 : List Int) (sat2 : List Int) : O ((List D)) :=
  (catL sat2 ([(0 : Int)])).bind fun v3 =>
  (catL sat2 sat2).bind fun v4 =>
  (forN (fun (x14 : Int × Int) (found15 : (List D)) =>
  (ixL sat2 x14.1).bind fun v16 =>
  (lcO (fun (x17 : D) => (opD (dAdd ((eT D.int) (cutL sat2 none (some x14.1))) ((eT eD) [x17]))).bind fun v20 =>
  (opD (dAdd v20 ((eT D.int) (cutL sat2 (some (x14.1 + (1 : Int))) none)))).bind fun v21 =>
  O.ok v21) ([(D.int (-(1 : Int))), (D.int (x14.2 + (1 : Int))), (D.int x14.2), (D.int (0 : Int)), (D.bl true), (D.bl false), (eU ()), (D.str ("0" : Str)), (D.str ("" : Str)), ((eL D.int) ([(0 : Int)])), ((eT D.int) ([(0 : Int)])), (D.dct [] []), ((eT (eL eD)) [[]]), (D.int (1000000000000000000000000000000 : Int)), (D.bl (decide (v16 = (1 : Int))))])).bind fun v22 =>
  (extL found15 v22).bind fun found23 =>
  O.ok found23) (enL highs1) ([((eT D.int) sat2), ((eT D.int) sat2.reverse), ((eL D.int) sat2), ((eT D.int) v3), ((eT D.int) (cutL sat2 (some (1 : Int)) none)), ((eT D.int) (cutL sat2 none (some (-(1 : Int))))), ((eT D.int) v4), ((eT (eT D.int)) [sat2]), ((eT D.int) highs1)])).bind fun found13 =>
  O.ok found13
theorem q_law_near_sats (highs1 : List Int) (sat2 : List Int) : FSm MF_f_law_near_sats [(eT D.int) highs1, (eT D.int) sat2] (fun (b : (List D)) => (eL eD) b) (fun (_ : (List D)) => []) (t_law_near_sats highs1 sat2) := FSm.mk (show Sm (fun _ => True) (RT (fun (b : (List D)) => (eL eD) b) (fun (_ : (List D)) => []) []) (m_f_law_near_sats [some ((eT D.int) highs1), some ((eT D.int) sat2), none, none, none, none, none]) _ from by
  refine Sm.fin ?_
  refine Sm.sq ?_
  refine Sm.set ?_
  refine Sm.mLst ?_
  refine Sm.mCons ?_
  refine Sm.pu (rfl) ?_
  refine Sm.mCons ?_
  refine Sm.pu (a := (eT D.int) sat2.reverse) (m1_ok (rfl) (rv_t _)) ?_
  refine Sm.mCons ?_
  refine Sm.pu (a := (eL D.int) sat2) (a_ok (cons_ok (rfl) nil_ok) (list_t _)) ?_
  refine Sm.mCons ?_
  refine Sm.m2 ?_
  refine Sm.pu (rfl) ?_
  refine Sm.pu (a := (eT D.int) ([(0 : Int)])) (tup_ok (cons_ok (rfl) (nil_ok)) (show (1 : Nat) ≤ sizeLine by decide)) ?_
  refine Sm.op (os_catT _ _) fun v3 => ?_
  refine Sm.mCons ?_
  refine Sm.pu (a := (eT D.int) (cutL sat2 (some (1 : Int)) none)) (sl_ok' (rfl) (pt_ok (rfl)) (pn_ok) (sl_t _ _ _)) ?_
  refine Sm.mCons ?_
  refine Sm.pu (a := (eT D.int) (cutL sat2 none (some (-(1 : Int))))) (sl_ok' (rfl) (pn_ok) (pt_ok (m1_ok (rfl) (neg_i _))) (sl_t _ _ _)) ?_
  refine Sm.mCons ?_
  refine Sm.m2 ?_
  refine Sm.pu (rfl) ?_
  refine Sm.pu (rfl) ?_
  refine Sm.op (os_catT _ _) fun v4 => ?_
  refine Sm.mCons ?_
  refine Sm.pu (a := (eT (eT D.int)) [sat2]) (tup_ok (cons_ok (rfl) (nil_ok)) (show (1 : Nat) ≤ sizeLine by decide)) ?_
  refine Sm.mCons ?_
  refine Sm.pu (rfl) ?_
  refine Sm.pu rfl ?_
  refine Sm.opp (d := (eL eD) [((eT D.int) sat2), ((eT D.int) sat2.reverse), ((eL D.int) sat2), ((eT D.int) v3), ((eT D.int) (cutL sat2 (some (1 : Int)) none)), ((eT D.int) (cutL sat2 none (some (-(1 : Int))))), ((eT D.int) v4), ((eT (eT D.int)) [sat2]), ((eT D.int) highs1)]) (lstIf (n := 9) rfl (by decide)) ?_
  refine Sm.sq ?_
  refine Sm.for ?_
  refine Sm.mEn ?_
  refine Sm.mCons ?_
  refine Sm.pu (rfl) ?_
  refine Sm.pu rfl ?_
  refine Sm.opp (en_fin (sq_t _)) ?_
  refine Sm.bs (I := fun (z : (List D)) (y : (Option D) × (Option D) × (Option D)) => [some ((eT D.int) highs1), some ((eT D.int) sat2), some ((eL eD) z), y.1, y.2.1, y.2.2, none]) ?_ ?_
  · refine Sm.forN (e := (eP D.int D.int)) (I := fun (z : (List D)) (y : (Option D) × (Option D) × (Option D)) => [some ((eT D.int) highs1), some ((eT D.int) sat2), some ((eL eD) z), y.1, y.2.1, y.2.2, none]) ?_ _ ([((eT D.int) sat2), ((eT D.int) sat2.reverse), ((eL D.int) sat2), ((eT D.int) v3), ((eT D.int) (cutL sat2 (some (1 : Int)) none)), ((eT D.int) (cutL sat2 none (some (-(1 : Int))))), ((eT D.int) v4), ((eT (eT D.int)) [sat2]), ((eT D.int) highs1)]) (none, none, none)
    · intro x14
      intro found15
      intro j3_4_5
      refine Sm.gp rfl ?_
      refine Sm.fin ?_
      refine Sm.sq ?_
      refine Sm.set ?_
      refine Sm.mLst ?_
      refine Sm.mCons ?_
      refine Sm.pu (a := D.int (-(1 : Int))) (m1_ok (rfl) (neg_i _)) ?_
      refine Sm.mCons ?_
      refine Sm.pu (a := D.int (x14.2 + (1 : Int))) (m2_ok (rfl) (rfl) rfl) ?_
      refine Sm.mCons ?_
      refine Sm.pu (rfl) ?_
      refine Sm.mCons ?_
      refine Sm.pu (rfl) ?_
      refine Sm.mCons ?_
      refine Sm.pu (rfl) ?_
      refine Sm.mCons ?_
      refine Sm.pu (rfl) ?_
      refine Sm.mCons ?_
      refine Sm.pu (rfl) ?_
      refine Sm.mCons ?_
      refine Sm.pu (rfl) ?_
      refine Sm.mCons ?_
      refine Sm.pu (rfl) ?_
      refine Sm.mCons ?_
      refine Sm.pu (a := (eL D.int) ([(0 : Int)])) (lst_ok (cons_ok (rfl) (nil_ok)) (show (1 : Nat) ≤ sizeLine by decide)) ?_
      refine Sm.mCons ?_
      refine Sm.pu (a := (eT D.int) ([(0 : Int)])) (tup_ok (cons_ok (rfl) (nil_ok)) (show (1 : Nat) ≤ sizeLine by decide)) ?_
      refine Sm.mCons ?_
      refine Sm.pu (a := eD (D.dct [] [])) (rfl) ?_
      refine Sm.mCons ?_
      refine Sm.pu (a := (eT (eL eD)) [[]]) (tup_ok (cons_ok (lst_ok (nil_ok) (show (0 : Nat) ≤ sizeLine by decide)) (nil_ok)) (show (1 : Nat) ≤ sizeLine by decide)) ?_
      refine Sm.mCons ?_
      refine Sm.pu (a := D.int (1000000000000000000000000000000 : Int)) (m2_ok (rfl) (rfl) (show dPw (.int 10) (.int 30) = some (.int 1000000000000000000000000000000) by simp [dPw, dInt, CPow])) ?_
      refine Sm.mCons ?_
      refine Sm.m2 ?_
      refine Sm.m2 ?_
      refine Sm.pu (rfl) ?_
      refine Sm.pu (rfl) ?_
      refine Sm.op (os_ixT _ _) fun v16 => ?_
      refine Sm.pu (rfl) ?_
      refine Sm.opp (eq_ii _ _) ?_
      refine Sm.pu rfl ?_
      refine Sm.opp (d := (eL eD) [(D.int (-(1 : Int))), (D.int (x14.2 + (1 : Int))), (D.int x14.2), (D.int (0 : Int)), (D.bl true), (D.bl false), (eU ()), (D.str ("0" : Str)), (D.str ("" : Str)), ((eL D.int) ([(0 : Int)])), ((eT D.int) ([(0 : Int)])), (D.dct [] []), ((eT (eL eD)) [[]]), (D.int (1000000000000000000000000000000 : Int)), (D.bl (decide (v16 = (1 : Int))))]) (lstIf (n := 15) rfl (by decide)) ?_
      refine Sm.exp ?_
      refine Sm.mMl rfl ?_
      refine Sm.mCons ?_
      refine Sm.mLc ?_
      refine Sm.mIt ?_
      refine Sm.pu (rfl) ?_
      refine Sm.opp (it_l _) ?_
      refine Sm.lcO (ex := eD) (ey := eD) (ρ1 := fun (x17 : D) => [some ((eT D.int) highs1), some ((eT D.int) sat2), some ((eL eD) found15), some (D.int x14.1), some (D.int x14.2), some ((eL eD) ([(D.int (-(1 : Int))), (D.int (x14.2 + (1 : Int))), (D.int x14.2), (D.int (0 : Int)), (D.bl true), (D.bl false), (eU ()), (D.str ("0" : Str)), (D.str ("" : Str)), ((eL D.int) ([(0 : Int)])), ((eT D.int) ([(0 : Int)])), (D.dct [] []), ((eT (eL eD)) [[]]), (D.int (1000000000000000000000000000000 : Int)), (D.bl (decide (v16 = (1 : Int))))])), some (eD x17)]) (f := fun (x17 : D) => (opD (dAdd ((eT D.int) (cutL sat2 none (some x14.1))) ((eT eD) [x17]))).bind fun v20 =>
        (opD (dAdd v20 ((eT D.int) (cutL sat2 (some (x14.1 + (1 : Int))) none)))).bind fun v21 =>
        O.ok v21) (fun x17 => rfl) (fun x17 => rfl) ?_ _ fun v22 => ?_
      · intro x17
        refine Sm.ex ?_
        refine Sm.m2 ?_
        refine Sm.m2 ?_
        refine Sm.pu (a := (eT D.int) (cutL sat2 none (some x14.1))) (sl_ok' (rfl) (pn_ok) (pt_ok (rfl)) (sl_t _ _ _)) ?_
        refine Sm.pu (a := (eT eD) [x17]) (tup_ok (cons_ok (rfl) (nil_ok)) (show (1 : Nat) ≤ sizeLine by decide)) ?_
        refine Sm.op os_D fun v20 => ?_
        refine Sm.pu (a := (eT D.int) (cutL sat2 (some (x14.1 + (1 : Int))) none)) (sl_ok' (rfl) (pt_ok (m2_ok (rfl) (rfl) rfl)) (pn_ok) (sl_t _ _ _)) ?_
        refine Sm.op os_D fun v21 => ?_
        exact Sm.done rfl
      · refine Sm.pu rfl ?_
        refine Sm.mlK (f := fun b => (D.non, (eL eD) b)) (d := (eL eD) found15) rfl (os_ext (e := eD) found15 v22) fun found23 => ?_
        exact Sm.done (b := found23) ⟨⟨_, _, _⟩, .inl rfl⟩
  · intro found13
    intro j3_4_5
    refine Sm.ret ?_
    refine Sm.pu (rfl) ?_
    exact Sm.done (b := found13) ⟨_, rfl, rfl⟩)
end Law
namespace Law
open PySem PySem.Spec PyProof.Rows L2 G
noncomputable def t_law_no_moor (odd1 : D) (sat2 : List Int) : O (Bool) :=
  (tryO (α := Sum (Bool) (Unit)) ((t_is_stand odd1 ((eT D.int) sat2)).bind fun v4 =>
  O.ok (Sum.inr ())) caught_NoMoor (O.ok (Sum.inl true))).bind fun z => match z with
  | .inl v4 => O.ok v4
  | .inr _ =>
  O.ok false
theorem q_law_no_moor (odd1 : D) (sat2 : List Int) : FSm MF_f_law_no_moor [eD odd1, (eT D.int) sat2] (fun (b : Bool) => D.bl b) (fun (_ : Bool) => []) (t_law_no_moor odd1 sat2) := FSm.mk (show Sm (fun _ => True) (RT (fun (b : Bool) => D.bl b) (fun (_ : Bool) => []) []) (m_f_law_no_moor [some (eD odd1), some ((eT D.int) sat2)]) _ from by
  refine Sm.fin ?_
  refine Sm.sq ?_
  refine Sm.bR (I := fun (z : Unit) (y : Unit) => [some (eD odd1), some ((eT D.int) sat2)]) (Q := (RT (fun (b : Bool) => D.bl b) (fun (_ : Bool) => []) [])) ?_ ?_ ?_
  · refine Sm.tr (E1 := fun (y : Unit) => [some (eD odd1), some ((eT D.int) sat2)]) SO.ner ?_ (fun _ => trivial) ?_
    · refine Sm.fin ?_
      refine Sm.exp ?_
      refine Sm.mCkd ?_
      refine Sm.mCons ?_
      refine Sm.pu (rfl) ?_
      refine Sm.mCons ?_
      refine Sm.pu (rfl) ?_
      refine Sm.pu rfl ?_
      refine Sm.pu rfl ?_
      refine Sm.ckK (q_is_stand odd1 ((eT D.int) sat2)) ⟨rfl, rfl, rfl⟩ rfl ⟨(), rfl⟩ fun v4 => ?_
      exact Sm.done (b := (Sum.inr ())) ⟨(), rfl⟩
    · intro _
      refine Sm.fin ?_
      refine Sm.ret ?_
      refine Sm.pu (rfl) ?_
      exact Sm.done (b := (Sum.inl true)) (RT.rt ⟨_, rfl, rfl⟩)
  · intro v4 hv
    exact Sm.done hv
  · intro _
    intro _
    refine Sm.ret ?_
    refine Sm.pu (rfl) ?_
    exact Sm.done (b := false) ⟨_, rfl, rfl⟩)
end Law
namespace Law
open PySem PySem.Spec PyProof.Rows L2 G
noncomputable def t_Moor_str (self1 : D) : O (Str) :=
  (atC 0 0 (cT (cP cS cI)) self1).bind fun gauges2 =>
  (lcO (fun (x3 : Str × Int) => (catS Str.empty ("gauge " : Str)).bind fun v10 =>
  (fmS x3.1).bind fun v11 =>
  (catS v10 v11).bind fun v12 =>
  (catS v12 (" " : Str)).bind fun v13 =>
  (opS (dFm (D.int x3.2))).bind fun v14 =>
  (catS v13 v14).bind fun v15 =>
  O.ok v15) gauges2).bind fun v16 =>
  (atC 1 0 (cT (cP cS cS)) self1).bind fun rods17 =>
  (lcO (fun (x18 : Str × Str) => (catS Str.empty ("rod " : Str)).bind fun v25 =>
  (fmS x18.1).bind fun v26 =>
  (catS v25 v26).bind fun v27 =>
  (catS v27 (" " : Str)).bind fun v28 =>
  (fmS x18.2).bind fun v29 =>
  (catS v28 v29).bind fun v30 =>
  O.ok v30) rods17).bind fun v31 =>
  (catL v16 v31).bind fun v32 =>
  (joinO ("\n" : Str) v32).bind fun v33 =>
  O.ok v33
theorem q_Moor_str (self1 : D) : FSm MF_f_Moor_str [eD self1] (fun (b : Str) => D.str b) (fun (_ : Str) => []) (t_Moor_str self1) := FSm.mk (show Sm (fun _ => True) (RT (fun (b : Str) => D.str b) (fun (_ : Str) => []) []) (m_f_Moor_str [some (eD self1), none, none, none, none]) _ from by
  refine Sm.fin ?_
  refine Sm.ret ?_
  refine Sm.mJo ?_
  refine Sm.pu (rfl) ?_
  refine Sm.joK ?_
  refine Sm.m2 ?_
  refine Sm.mLc ?_
  refine Sm.mIt ?_
  refine Sm.m1 ?_
  refine Sm.pu (rfl) ?_
  refine Sm.op (os_atC (cst_tup (cst_p cst_str cst_int))) fun gauges2 => ?_
  refine Sm.opp (it_t _) ?_
  refine Sm.lcO (ex := (eP D.str D.int)) (ey := D.str) (ρ1 := fun (x3 : Str × Int) => [some (eD self1), some (D.str x3.1), some (D.int x3.2), none, none]) (f := fun (x3 : Str × Int) => (catS Str.empty ("gauge " : Str)).bind fun v10 =>
    (fmS x3.1).bind fun v11 =>
    (catS v10 v11).bind fun v12 =>
    (catS v12 (" " : Str)).bind fun v13 =>
    (opS (dFm (D.int x3.2))).bind fun v14 =>
    (catS v13 v14).bind fun v15 =>
    O.ok v15) (fun x3 => rfl) (fun x3 => rfl) ?_ _ fun v16 => ?_
  · intro x3
    refine Sm.ex ?_
    refine Sm.mJn ?_
    refine Sm.js_c ?_
    refine Sm.pu (rfl) ?_
    refine Sm.js_s fun v10 => ?_
    refine Sm.js_c ?_
    refine Sm.m1 ?_
    refine Sm.pu (rfl) ?_
    refine Sm.op (os_fmS _) fun v11 => ?_
    refine Sm.js_s fun v12 => ?_
    refine Sm.js_c ?_
    refine Sm.pu (rfl) ?_
    refine Sm.js_s fun v13 => ?_
    refine Sm.js_c ?_
    refine Sm.m1 ?_
    refine Sm.pu (rfl) ?_
    refine Sm.op os_S fun v14 => ?_
    refine Sm.js_s fun v15 => ?_
    refine Sm.js_n ?_
    exact Sm.done rfl
  · refine Sm.mLc ?_
    refine Sm.mIt ?_
    refine Sm.m1 ?_
    refine Sm.pu (rfl) ?_
    refine Sm.op (os_atC (cst_tup (cst_p cst_str cst_str))) fun rods17 => ?_
    refine Sm.opp (it_t _) ?_
    refine Sm.lcO (ex := (eP D.str D.str)) (ey := D.str) (ρ1 := fun (x18 : Str × Str) => [some (eD self1), none, none, some (D.str x18.1), some (D.str x18.2)]) (f := fun (x18 : Str × Str) => (catS Str.empty ("rod " : Str)).bind fun v25 =>
      (fmS x18.1).bind fun v26 =>
      (catS v25 v26).bind fun v27 =>
      (catS v27 (" " : Str)).bind fun v28 =>
      (fmS x18.2).bind fun v29 =>
      (catS v28 v29).bind fun v30 =>
      O.ok v30) (fun x18 => rfl) (fun x18 => rfl) ?_ _ fun v31 => ?_
    · intro x18
      refine Sm.ex ?_
      refine Sm.mJn ?_
      refine Sm.js_c ?_
      refine Sm.pu (rfl) ?_
      refine Sm.js_s fun v25 => ?_
      refine Sm.js_c ?_
      refine Sm.m1 ?_
      refine Sm.pu (rfl) ?_
      refine Sm.op (os_fmS _) fun v26 => ?_
      refine Sm.js_s fun v27 => ?_
      refine Sm.js_c ?_
      refine Sm.pu (rfl) ?_
      refine Sm.js_s fun v28 => ?_
      refine Sm.js_c ?_
      refine Sm.m1 ?_
      refine Sm.pu (rfl) ?_
      refine Sm.op (os_fmS _) fun v29 => ?_
      refine Sm.js_s fun v30 => ?_
      refine Sm.js_n ?_
      exact Sm.done rfl
    · refine Sm.op (os_catL _ _) fun v32 => ?_
      refine Sm.op (os_joinL _ _) fun v33 => ?_
      exact Sm.done (b := v33) ⟨_, rfl, rfl⟩)
end Law
namespace Law
open PySem PySem.Spec PyProof.Rows L2 G
noncomputable def t_law_one_right (hand1 : List Int) (given2 : (List Str) × (List Int) × (List (List Int)) × (List (Int × Int))) : O (Bool × (List Int)) :=
  (t_law_handed given2.1 given2.2.1 given2.2.2.2).bind fun v3 =>
  (t_Moor_init (D.obj 0 []) ((eT (eP D.str D.int)) v3.1) ((eT (eP D.str D.str)) v3.2)).bind fun wild4 =>
  (t_law_sat hand1 given2.2.1).bind fun (sat5, hand6) =>
  (t_law_near_sats given2.2.1 sat5).bind fun v7 =>
  (catL v7 ([(eU ()), (D.bl true), (D.int (0 : Int)), (D.str ("" : Str)), (D.str ("0" : Str)), ((eT eD) []), ((eL eD) []), (D.dct [] []), ((eT (eL eD)) [[]]), ((eT (eT eD)) [[]]), ((eT (eP D.str D.int)) v3.1), ((eL D.str) given2.1)])).bind fun some8 =>
  (lcO (fun (x9 : D) => (t_law_told_right wild4 given2.2.1 x9).bind fun v11 =>
  O.ok v11) some8).bind fun v12 =>
  if (!(v12.all id)) = true then
  (O.ok (false, hand6))
  else
  ((isO 0 wild4).bind fun _ => (noX (t_Moor_str wild4)).bind fun v13 =>
  (lcO (fun (x14 : D) => (t_law_no_moor x14 sat5).bind fun v16 =>
  O.ok v16) ([(eU ()), (D.int (0 : Int)), (D.bl true), (D.str ("" : Str)), ((eT eD) []), ((eL eD) []), (D.dct [] []), (D.str v13), ((eP (eT (eP D.str D.int)) (eT (eP D.str D.str))) (v3.1, v3.2))])).bind fun v17 =>
  O.ok ((v17.all id), hand6))
theorem q_law_one_right (hand1 : List Int) (given2 : (List Str) × (List Int) × (List (List Int)) × (List (Int × Int))) : FSm MF_f_law_one_right [(eL D.int) hand1, (eP4 (eL D.str) (eT D.int) (eL (eL D.int)) (eL (eP D.int D.int))) given2] (fun (b : Bool × (List Int)) => D.bl b.1) (fun (b : Bool × (List Int)) => [(eL D.int) b.2]) (t_law_one_right hand1 given2) := FSm.mk (show Sm (fun _ => True) (RT (fun (b : Bool × (List Int)) => D.bl b.1) (fun (b : Bool × (List Int)) => [(eL D.int) b.2]) [0]) (m_f_law_one_right [some ((eL D.int) hand1), some ((eP4 (eL D.str) (eT D.int) (eL (eL D.int)) (eL (eP D.int D.int))) given2), none, none, none, none, none, none, none, none, none, none]) _ from by
  refine Sm.fin ?_
  refine Sm.sq ?_
  refine Sm.asg ?_
  refine Sm.pu (rfl) ?_
  refine Sm.gp rfl ?_
  refine Sm.sq ?_
  refine Sm.asg ?_
  refine Sm.mCkd ?_
  refine Sm.mCons ?_
  refine Sm.pu (rfl) ?_
  refine Sm.mCons ?_
  refine Sm.pu (rfl) ?_
  refine Sm.mCons ?_
  refine Sm.pu (rfl) ?_
  refine Sm.pu rfl ?_
  refine Sm.pu rfl ?_
  refine Sm.ckK (q_law_handed given2.1 given2.2.1 given2.2.2.2) ⟨rfl, rfl, rfl⟩ rfl trivial fun v3 => ?_
  refine Sm.gp rfl ?_
  refine Sm.sq ?_
  refine Sm.par ?_
  refine Sm.mCons ?_
  refine Sm.mMk ?_
  refine Sm.mCons ?_
  refine Sm.pu (rfl) ?_
  refine Sm.pu rfl ?_
  refine Sm.mCons ?_
  refine Sm.pu (rfl) ?_
  refine Sm.pu rfl ?_
  refine Sm.mkK (q_Moor_init (D.obj 0 []) ((eT (eP D.str D.int)) v3.1) ((eT (eP D.str D.str)) v3.2)) ⟨rfl, rfl, rfl⟩ rfl trivial fun wild4 => ?_
  refine Sm.mCons ?_
  refine Sm.mCallH ?_
  refine Sm.asc ?_
  refine Sm.pu rfl ?_
  refine Sm.mCons ?_
  refine Sm.pu (rfl) ?_
  refine Sm.pu rfl ?_
  refine Sm.chH (q_law_sat hand1 given2.2.1) rfl (fun _ => trivial) fun ⟨sat5, hand6⟩ => ?_
  refine Sm.pu rfl ?_
  refine Sm.sq ?_
  refine Sm.set ?_
  refine Sm.m2 ?_
  refine Sm.mCkd ?_
  refine Sm.mCons ?_
  refine Sm.pu (rfl) ?_
  refine Sm.mCons ?_
  refine Sm.pu (rfl) ?_
  refine Sm.pu rfl ?_
  refine Sm.pu rfl ?_
  refine Sm.ckK (q_law_near_sats given2.2.1 sat5) ⟨rfl, rfl, rfl⟩ rfl trivial fun v7 => ?_
  refine Sm.pu (a := (eL eD) ([(eU ()), (D.bl true), (D.int (0 : Int)), (D.str ("" : Str)), (D.str ("0" : Str)), ((eT eD) []), ((eL eD) []), (D.dct [] []), ((eT (eL eD)) [[]]), ((eT (eT eD)) [[]]), ((eT (eP D.str D.int)) v3.1), ((eL D.str) given2.1)])) (lst_ok (cons_ok (rfl) (cons_ok (rfl) (cons_ok (rfl) (cons_ok (rfl) (cons_ok (rfl) (cons_ok (tup_ok (nil_ok) (show (0 : Nat) ≤ sizeLine by decide)) (cons_ok (lst_ok (nil_ok) (show (0 : Nat) ≤ sizeLine by decide)) (cons_ok (rfl) (cons_ok (tup_ok (cons_ok (lst_ok (nil_ok) (show (0 : Nat) ≤ sizeLine by decide)) (nil_ok)) (show (1 : Nat) ≤ sizeLine by decide)) (cons_ok (tup_ok (cons_ok (tup_ok (nil_ok) (show (0 : Nat) ≤ sizeLine by decide)) (nil_ok)) (show (1 : Nat) ≤ sizeLine by decide)) (cons_ok (rfl) (cons_ok (rfl) (nil_ok))))))))))))) (show (12 : Nat) ≤ sizeLine by decide)) ?_
  refine Sm.op (os_catL _ _) fun some8 => ?_
  refine Sm.sq ?_
  refine Sm.ifc ?_
  refine Sm.mNot ?_
  refine Sm.mT ?_
  refine Sm.mA ?_
  refine Sm.mCons ?_
  refine Sm.mLc ?_
  refine Sm.mIt ?_
  refine Sm.pu (rfl) ?_
  refine Sm.opp (it_l _) ?_
  refine Sm.lcO (ex := eD) (ey := D.bl) (ρ1 := fun (x9 : D) => [some ((eL D.int) hand6), some ((eP4 (eL D.str) (eT D.int) (eL (eL D.int)) (eL (eP D.int D.int))) given2), some ((eL D.str) given2.1), some ((eT D.int) given2.2.1), some ((eL (eL D.int)) given2.2.2.1), some ((eL (eP D.int D.int)) given2.2.2.2), some ((eT (eP D.str D.int)) v3.1), some ((eT (eP D.str D.str)) v3.2), some (eD wild4), some ((eT D.int) sat5), some ((eL eD) some8), some (eD x9)]) (f := fun (x9 : D) => (t_law_told_right wild4 given2.2.1 x9).bind fun v11 =>
    O.ok v11) (fun x9 => rfl) (fun x9 => rfl) ?_ _ fun v12 => ?_
  · intro x9
    refine Sm.ex ?_
    refine Sm.mCkd ?_
    refine Sm.mCons ?_
    refine Sm.pu (rfl) ?_
    refine Sm.mCons ?_
    refine Sm.pu (rfl) ?_
    refine Sm.mCons ?_
    refine Sm.pu (rfl) ?_
    refine Sm.pu rfl ?_
    refine Sm.pu rfl ?_
    refine Sm.ckK (q_law_told_right wild4 given2.2.1 x9) ⟨rfl, rfl, rfl⟩ rfl trivial fun v11 => ?_
    exact Sm.done rfl
  · refine Sm.pu rfl ?_
    refine Sm.opp (all_l _) ?_
    refine Sm.opp rfl ?_
    refine Sm.ifS ?_ ?_
    · intro _
      refine Sm.ret ?_
      refine Sm.pu (rfl) ?_
      exact Sm.done (b := (false, hand6)) ⟨_, rfl, rfl⟩
    · intro _
      refine Sm.nx ?_
      refine Sm.ret ?_
      refine Sm.mA ?_
      refine Sm.mCons ?_
      refine Sm.mLc ?_
      refine Sm.mIt ?_
      refine Sm.mLst ?_
      refine Sm.mCons ?_
      refine Sm.pu (rfl) ?_
      refine Sm.mCons ?_
      refine Sm.pu (rfl) ?_
      refine Sm.mCons ?_
      refine Sm.pu (rfl) ?_
      refine Sm.mCons ?_
      refine Sm.pu (rfl) ?_
      refine Sm.mCons ?_
      refine Sm.pu (a := (eT eD) []) (tup_ok (nil_ok) (show (0 : Nat) ≤ sizeLine by decide)) ?_
      refine Sm.mCons ?_
      refine Sm.pu (a := (eL eD) []) (lst_ok (nil_ok) (show (0 : Nat) ≤ sizeLine by decide)) ?_
      refine Sm.mCons ?_
      refine Sm.pu (a := eD (D.dct [] [])) (rfl) ?_
      refine Sm.mCons ?_
      refine Sm.mStrO ?_
      refine Sm.pu (rfl) ?_
      refine Sm.strOK (q_Moor_str wild4) fun v13 => ?_
      refine Sm.mCons ?_
      refine Sm.pu (a := (eP (eT (eP D.str D.int)) (eT (eP D.str D.str))) (v3.1, v3.2)) (tup_ok (cons_ok (rfl) (cons_ok (rfl) (nil_ok))) (show (2 : Nat) ≤ sizeLine by decide)) ?_
      refine Sm.pu rfl ?_
      refine Sm.opp (d := (eL eD) [(eU ()), (D.int (0 : Int)), (D.bl true), (D.str ("" : Str)), ((eT eD) []), ((eL eD) []), (D.dct [] []), (D.str v13), ((eP (eT (eP D.str D.int)) (eT (eP D.str D.str))) (v3.1, v3.2))]) (lstIf (n := 9) rfl (by decide)) ?_
      refine Sm.opp (it_l _) ?_
      refine Sm.lcO (ex := eD) (ey := D.bl) (ρ1 := fun (x14 : D) => [some ((eL D.int) hand6), some ((eP4 (eL D.str) (eT D.int) (eL (eL D.int)) (eL (eP D.int D.int))) given2), some ((eL D.str) given2.1), some ((eT D.int) given2.2.1), some ((eL (eL D.int)) given2.2.2.1), some ((eL (eP D.int D.int)) given2.2.2.2), some ((eT (eP D.str D.int)) v3.1), some ((eT (eP D.str D.str)) v3.2), some (eD wild4), some ((eT D.int) sat5), some ((eL eD) some8), some (eD x14)]) (f := fun (x14 : D) => (t_law_no_moor x14 sat5).bind fun v16 =>
        O.ok v16) (fun x14 => rfl) (fun x14 => rfl) ?_ _ fun v17 => ?_
      · intro x14
        refine Sm.ex ?_
        refine Sm.mCkd ?_
        refine Sm.mCons ?_
        refine Sm.pu (rfl) ?_
        refine Sm.mCons ?_
        refine Sm.pu (rfl) ?_
        refine Sm.pu rfl ?_
        refine Sm.pu rfl ?_
        refine Sm.ckK (q_law_no_moor x14 sat5) ⟨rfl, rfl, rfl⟩ rfl trivial fun v16 => ?_
        exact Sm.done rfl
      · refine Sm.pu rfl ?_
        refine Sm.opp (all_l _) ?_
        exact Sm.done (b := ((v17.all id), hand6)) ⟨_, rfl, rfl⟩)
end Law
namespace Law
open PySem PySem.Spec PyProof.Rows L2 G
noncomputable def t_law_moor_great (hand1 : List Int) : O (((List Str) × (List Int) × (List (List Int)) × (List (Int × Int))) × (List Int)) :=
  (t_law_draw hand1 (12 : Int)).bind fun (v2, hand3) =>
  (t_law_draw hand3 (6 : Int)).bind fun (v4, hand5) =>
  (ixL ([(1 : Int), (2 : Int), (6 : Int), (1000 : Int), ((1000000 : Int) + (3 : Int)), (100000000 : Int)]) v4).bind fun base6 =>
  (rg1 ((1 : Int) + v2)).bind fun r7 =>
  (forN (fun (x22 : Int) ((hand23, highs24) : (List Int) × (List Int)) =>
  (t_law_draw hand23 (9 : Int)).bind fun (v25, hand26) =>
  (mulI base6 ((1 : Int) + v25)).bind fun v27 =>
  (t_law_draw hand26 ((1000000000 : Int) + (1 : Int))).bind fun (v28, hand29) =>
  (t_law_draw hand29 (13 : Int)).bind fun (v30, hand31) =>
  (catL ([(1000000000 : Int), base6, (base6 - (1 : Int)), v27, v28]) [v30]).bind fun v32 =>
  (t_law_draw hand31 (6 : Int)).bind fun (v33, hand34) =>
  (ixL v32 v33).bind fun v35 =>
  (appL highs24 (minI (1000000000 : Int) v35)).bind fun highs36 =>
  O.ok (hand34, highs36)) r7 (hand5, [])).bind fun (hand20, highs21) =>
  (t_law_pairs hand20 ((1 : Int) + v2)).bind fun (pairs37, hand38) =>
  (t_law_calls hand38 ((1 : Int) + v2)).bind fun (v39, hand40) =>
  (t_law_near ((1 : Int) + v2) pairs37).bind fun v41 =>
  O.ok ((v39, highs21, v41, pairs37), hand40)
theorem q_law_moor_great (hand1 : List Int) : FSm MF_f_law_moor_great [(eL D.int) hand1] (fun (b : ((List Str) × (List Int) × (List (List Int)) × (List (Int × Int))) × (List Int)) => (eP4 (eL D.str) (eT D.int) (eL (eL D.int)) (eL (eP D.int D.int))) b.1) (fun (b : ((List Str) × (List Int) × (List (List Int)) × (List (Int × Int))) × (List Int)) => [(eL D.int) b.2]) (t_law_moor_great hand1) := FSm.mk (show Sm (fun _ => True) (RT (fun (b : ((List Str) × (List Int) × (List (List Int)) × (List (Int × Int))) × (List Int)) => (eP4 (eL D.str) (eT D.int) (eL (eL D.int)) (eL (eP D.int D.int))) b.1) (fun (b : ((List Str) × (List Int) × (List (List Int)) × (List (Int × Int))) × (List Int)) => [(eL D.int) b.2]) [0]) (m_f_law_moor_great [some ((eL D.int) hand1), none, none, none, none, none, none]) _ from by
  refine Sm.fin ?_
  refine Sm.sq ?_
  refine Sm.par ?_
  refine Sm.mCons ?_
  refine Sm.m2 ?_
  refine Sm.pu (rfl) ?_
  refine Sm.mCallH ?_
  refine Sm.asc ?_
  refine Sm.pu rfl ?_
  refine Sm.mCons ?_
  refine Sm.pu (rfl) ?_
  refine Sm.pu rfl ?_
  refine Sm.chH (q_law_draw hand1 (12 : Int)) rfl (fun _ => trivial) fun ⟨v2, hand3⟩ => ?_
  refine Sm.opp rfl ?_
  refine Sm.mCons ?_
  refine Sm.m2 ?_
  refine Sm.pu (a := (eL D.int) ([(1 : Int), (2 : Int), (6 : Int), (1000 : Int), ((1000000 : Int) + (3 : Int)), (100000000 : Int)])) (lst_ok (cons_ok (rfl) (cons_ok (rfl) (cons_ok (rfl) (cons_ok (rfl) (cons_ok (m2_ok (m2_ok (rfl) (rfl) (show dPw (.int 10) (.int 6) = some (.int 1000000) by simp [dPw, dInt, CPow])) (rfl) rfl) (cons_ok (m2_ok (rfl) (rfl) (show dPw (.int 10) (.int 8) = some (.int 100000000) by simp [dPw, dInt, CPow])) (nil_ok))))))) (show (6 : Nat) ≤ sizeLine by decide)) ?_
  refine Sm.mCallH ?_
  refine Sm.asc ?_
  refine Sm.pu rfl ?_
  refine Sm.mCons ?_
  refine Sm.pu (rfl) ?_
  refine Sm.pu rfl ?_
  refine Sm.chH (q_law_draw hand3 (6 : Int)) rfl (fun _ => trivial) fun ⟨v4, hand5⟩ => ?_
  refine Sm.op (os_ixL _ _) fun base6 => ?_
  refine Sm.pu rfl ?_
  refine Sm.sq ?_
  refine Sm.set ?_
  refine Sm.pu (a := (eL eD) []) (lst_ok (nil_ok) (show (0 : Nat) ≤ sizeLine by decide)) ?_
  refine Sm.sq ?_
  refine Sm.for ?_
  refine Sm.mRg1 ?_
  refine Sm.mCons ?_
  refine Sm.pu (rfl) ?_
  refine Sm.pu rfl ?_
  refine Sm.op (os_rg1 _) fun r7 => ?_
  refine Sm.bs (I := fun (z : (List Int) × (List Int)) (y : (Option D) × (Option D)) => [some ((eL D.int) z.1), some (D.int ((1 : Int) + v2)), some (D.int base6), some ((eL D.int) z.2), y.1, y.2, none]) ?_ ?_
  · refine Sm.forN (e := D.int) (I := fun (z : (List Int) × (List Int)) (y : (Option D) × (Option D)) => [some ((eL D.int) z.1), some (D.int ((1 : Int) + v2)), some (D.int base6), some ((eL D.int) z.2), y.1, y.2, none]) ?_ _ (hand5, []) (none, none)
    · intro x22
      intro z_
      refine Prod.rec (fun hand23 highs24 => ?_) z_
      intro j4_5
      refine Sm.gp rfl ?_
      refine Sm.fin ?_
      refine Sm.sq ?_
      refine Sm.set ?_
      refine Sm.mLst ?_
      refine Sm.mCons ?_
      refine Sm.pu (a := D.int (1000000000 : Int)) (m2_ok (rfl) (rfl) (show dPw (.int 10) (.int 9) = some (.int 1000000000) by simp [dPw, dInt, CPow])) ?_
      refine Sm.mCons ?_
      refine Sm.pu (rfl) ?_
      refine Sm.mCons ?_
      refine Sm.pu (a := D.int (base6 - (1 : Int))) (m2_ok (rfl) (rfl) (sub_ii _ _)) ?_
      refine Sm.mCons ?_
      refine Sm.m2 ?_
      refine Sm.pu (rfl) ?_
      refine Sm.m2 ?_
      refine Sm.pu (rfl) ?_
      refine Sm.mCallH ?_
      refine Sm.asc ?_
      refine Sm.pu rfl ?_
      refine Sm.mCons ?_
      refine Sm.pu (rfl) ?_
      refine Sm.pu rfl ?_
      refine Sm.chH (q_law_draw hand23 (9 : Int)) rfl (fun _ => trivial) fun ⟨v25, hand26⟩ => ?_
      refine Sm.opp rfl ?_
      refine Sm.op (os_mul _ _) fun v27 => ?_
      refine Sm.mCons ?_
      refine Sm.mCallH ?_
      refine Sm.asc ?_
      refine Sm.pu rfl ?_
      refine Sm.mCons ?_
      refine Sm.pu (m2_ok (m2_ok (rfl) (rfl) (show dPw (.int 10) (.int 9) = some (.int 1000000000) by simp [dPw, dInt, CPow])) (rfl) rfl) ?_
      refine Sm.pu rfl ?_
      refine Sm.chH (q_law_draw hand26 ((1000000000 : Int) + (1 : Int))) rfl (fun _ => trivial) fun ⟨v28, hand29⟩ => ?_
      refine Sm.pu rfl ?_
      refine Sm.opp (d := (eL D.int) [(1000000000 : Int), base6, (base6 - (1 : Int)), v27, v28]) (lstIf (n := 5) rfl (by decide)) ?_
      refine Sm.exp ?_
      refine Sm.mMl rfl ?_
      refine Sm.mCons ?_
      refine Sm.mA ?_
      refine Sm.mCons ?_
      refine Sm.pu (a := D.int (1000000000 : Int)) (m2_ok (rfl) (rfl) (show dPw (.int 10) (.int 9) = some (.int 1000000000) by simp [dPw, dInt, CPow])) ?_
      refine Sm.mCons ?_
      refine Sm.m2 ?_
      refine Sm.m2 ?_
      refine Sm.pu (rfl) ?_
      refine Sm.mLst ?_
      refine Sm.mCons ?_
      refine Sm.mCallH ?_
      refine Sm.asc ?_
      refine Sm.pu rfl ?_
      refine Sm.mCons ?_
      refine Sm.pu (rfl) ?_
      refine Sm.pu rfl ?_
      refine Sm.chH (q_law_draw hand29 (13 : Int)) rfl (fun _ => trivial) fun ⟨v30, hand31⟩ => ?_
      refine Sm.pu rfl ?_
      refine Sm.opp (d := (eL D.int) [v30]) (lstIf (n := 1) rfl (by decide)) ?_
      refine Sm.op (os_catL _ _) fun v32 => ?_
      refine Sm.mCallH ?_
      refine Sm.asc ?_
      refine Sm.pu rfl ?_
      refine Sm.mCons ?_
      refine Sm.pu (rfl) ?_
      refine Sm.pu rfl ?_
      refine Sm.chH (q_law_draw hand31 (6 : Int)) rfl (fun _ => trivial) fun ⟨v33, hand34⟩ => ?_
      refine Sm.op (os_ixL _ _) fun v35 => ?_
      refine Sm.pu rfl ?_
      refine Sm.opp (min_ii _ _) ?_
      refine Sm.pu rfl ?_
      refine Sm.mlK (f := fun b => (D.non, (eL D.int) b)) (d := (eL D.int) highs24) rfl (os_app (e := D.int) highs24 (minI (1000000000 : Int) v35)) fun highs36 => ?_
      exact Sm.done (b := (hand34, highs36)) ⟨⟨_, _⟩, .inl rfl⟩
  · intro z_
    refine Prod.rec (fun hand20 highs21 => ?_) z_
    intro j4_5
    refine Sm.sq ?_
    refine Sm.set ?_
    refine Sm.mCallH ?_
    refine Sm.asc ?_
    refine Sm.pu rfl ?_
    refine Sm.mCons ?_
    refine Sm.pu (rfl) ?_
    refine Sm.pu rfl ?_
    refine Sm.chH (q_law_pairs hand20 ((1 : Int) + v2)) rfl (fun _ => trivial) fun ⟨pairs37, hand38⟩ => ?_
    refine Sm.ret ?_
    refine Sm.mTup ?_
    refine Sm.mCons ?_
    refine Sm.mCallH ?_
    refine Sm.asc ?_
    refine Sm.pu rfl ?_
    refine Sm.mCons ?_
    refine Sm.pu (rfl) ?_
    refine Sm.pu rfl ?_
    refine Sm.chH (q_law_calls hand38 ((1 : Int) + v2)) rfl (fun _ => trivial) fun ⟨v39, hand40⟩ => ?_
    refine Sm.mCons ?_
    refine Sm.pu (a := (eT D.int) highs21) (a_ok (cons_ok (rfl) nil_ok) (tuple_l _)) ?_
    refine Sm.mCons ?_
    refine Sm.mCkd ?_
    refine Sm.mCons ?_
    refine Sm.pu (rfl) ?_
    refine Sm.mCons ?_
    refine Sm.pu (rfl) ?_
    refine Sm.pu rfl ?_
    refine Sm.pu rfl ?_
    refine Sm.ckK (q_law_near ((1 : Int) + v2) pairs37) ⟨rfl, rfl, rfl⟩ rfl trivial fun v41 => ?_
    refine Sm.mCons ?_
    refine Sm.pu (rfl) ?_
    refine Sm.pu rfl ?_
    refine Sm.opp (d := (eP4 (eL D.str) (eT D.int) (eL (eL D.int)) (eL (eP D.int D.int))) (v39, highs21, v41, pairs37)) (tupIf (n := 4) rfl (by decide)) ?_
    exact Sm.done (b := ((v39, highs21, v41, pairs37), hand40)) ⟨_, rfl, rfl⟩)
end Law
namespace Law
open PySem PySem.Spec PyProof.Rows L2 G
noncomputable def t_law_right (hand1 : List Int) : O (Bool × (List Int)) :=
  (t_law_moor_small hand1 (600 : Int)).bind fun (v2, hand3) =>
  (t_law_one_right hand3 v2).bind fun (v4, hand5) =>
  (if v4 = true then ((t_law_moor_great hand5).bind fun (v10, hand11) =>
  (t_law_one_right hand11 v10).bind fun (v12, hand13) =>
  O.ok (v12, hand13)) else .ok (false, hand5)).bind fun (v14, hand15) =>
  O.ok (v14, hand15)
theorem q_law_right (hand1 : List Int) : FSm MF_f_law_right [(eL D.int) hand1] (fun (b : Bool × (List Int)) => D.bl b.1) (fun (b : Bool × (List Int)) => [(eL D.int) b.2]) (t_law_right hand1) := FSm.mk (show Sm (fun _ => True) (RT (fun (b : Bool × (List Int)) => D.bl b.1) (fun (b : Bool × (List Int)) => [(eL D.int) b.2]) [0]) (m_f_law_right [some ((eL D.int) hand1)]) _ from by
  refine Sm.fin ?_
  refine Sm.ret ?_
  refine Sm.mAndV ?_
  refine Sm.mCallH ?_
  refine Sm.asc ?_
  refine Sm.pu rfl ?_
  refine Sm.mCons ?_
  refine Sm.mCallH ?_
  refine Sm.asc ?_
  refine Sm.pu rfl ?_
  refine Sm.mCons ?_
  refine Sm.pu (rfl) ?_
  refine Sm.pu rfl ?_
  refine Sm.chH (q_law_moor_small hand1 (600 : Int)) rfl (fun _ => trivial) fun ⟨v2, hand3⟩ => ?_
  refine Sm.pu rfl ?_
  refine Sm.chH (q_law_one_right hand3 v2) rfl (fun _ => trivial) fun ⟨v4, hand5⟩ => ?_
  refine Sm.bd (f := fun z => D.bl z.1) (g := fun z => [some ((eL D.int) z.2)]) ?_ fun ⟨v14, hand15⟩ => ?_
  · refine Sm.andK (fun _ => ?_) rfl
    refine Sm.ex ?_
    refine Sm.mCallH ?_
    refine Sm.asc ?_
    refine Sm.pu rfl ?_
    refine Sm.mCons ?_
    refine Sm.mCallH ?_
    refine Sm.asc ?_
    refine Sm.pu rfl ?_
    refine Sm.pu rfl ?_
    refine Sm.chH (q_law_moor_great hand5) rfl (fun _ => trivial) fun ⟨v10, hand11⟩ => ?_
    refine Sm.pu rfl ?_
    refine Sm.chH (q_law_one_right hand11 v10) rfl (fun _ => trivial) fun ⟨v12, hand13⟩ => ?_
    exact Sm.done rfl
  · exact Sm.done (b := (v14, hand15)) ⟨_, rfl, rfl⟩)
end Law
namespace Law
open PySem PySem.Spec PyProof.Rows L2 G
noncomputable def t_law (script1 : List Int) : O (Bool) :=
  (lcO (fun (x2 : D) => (t_Moor_init (D.obj 0 []) (eT eD []) (eT eD [])).bind fun v5 =>
  (t_law_told_right v5 [] x2).bind fun v6 =>
  O.ok v6) ([((eT eD) []), ((eT D.int) ([(0 : Int)])), ((eL eD) []), (eU ()), ((eT (eT eD)) [[]]), (D.str ("" : Str)), (D.dct [] [])])).bind fun v7 =>
  if (!(v7.all id)) = true then
  (O.ok false)
  else
  ((rg1 (maxI (2 : Int) (minI (script1.length : Int) (8 : Int)))).bind fun r8 =>
  (lcO (fun (x9 : Int) => (t_law_cell script1 x9).bind fun v14 =>
  (t_law_hand v14).bind fun v15 =>
  (t_law_right v15).bind fun (v16, o17) =>
  O.ok v16) r8).bind fun v18 =>
  O.ok (v18.all id))
theorem q_law (script1 : List Int) : FSm MF_f_law [D.scr script1] (fun (b : Bool) => D.bl b) (fun (_ : Bool) => []) (t_law script1) := FSm.mk (show Sm (fun _ => True) (RT (fun (b : Bool) => D.bl b) (fun (_ : Bool) => []) []) (m_f_law [some (D.scr script1), none, none]) _ from by
  refine Sm.fin ?_
  refine Sm.sq ?_
  refine Sm.ifc ?_
  refine Sm.mNot ?_
  refine Sm.mT ?_
  refine Sm.mA ?_
  refine Sm.mCons ?_
  refine Sm.mLc ?_
  refine Sm.mIt ?_
  refine Sm.pu (a := (eL eD) ([((eT eD) []), ((eT D.int) ([(0 : Int)])), ((eL eD) []), (eU ()), ((eT (eT eD)) [[]]), (D.str ("" : Str)), (D.dct [] [])])) (lst_ok (cons_ok (tup_ok (nil_ok) (show (0 : Nat) ≤ sizeLine by decide)) (cons_ok (tup_ok (cons_ok (rfl) (nil_ok)) (show (1 : Nat) ≤ sizeLine by decide)) (cons_ok (lst_ok (nil_ok) (show (0 : Nat) ≤ sizeLine by decide)) (cons_ok (rfl) (cons_ok (tup_ok (cons_ok (tup_ok (nil_ok) (show (0 : Nat) ≤ sizeLine by decide)) (nil_ok)) (show (1 : Nat) ≤ sizeLine by decide)) (cons_ok (rfl) (cons_ok (rfl) (nil_ok)))))))) (show (7 : Nat) ≤ sizeLine by decide)) ?_
  refine Sm.opp (it_l _) ?_
  refine Sm.lcO (ex := eD) (ey := D.bl) (ρ1 := fun (x2 : D) => [some (D.scr script1), some (eD x2), none]) (f := fun (x2 : D) => (t_Moor_init (D.obj 0 []) (eT eD []) (eT eD [])).bind fun v5 =>
    (t_law_told_right v5 [] x2).bind fun v6 =>
    O.ok v6) (fun x2 => rfl) (fun x2 => rfl) ?_ _ fun v7 => ?_
  · intro x2
    refine Sm.ex ?_
    refine Sm.mCkd ?_
    refine Sm.mCons ?_
    refine Sm.mMk ?_
    refine Sm.pu rfl ?_
    refine Sm.pu rfl ?_
    refine Sm.mkK (q_Moor_init (D.obj 0 []) (eT eD []) (eT eD [])) ⟨rfl, rfl, rfl⟩ rfl trivial fun v5 => ?_
    refine Sm.mCons ?_
    refine Sm.pu (tup_ok (nil_ok) (show (0 : Nat) ≤ sizeLine by decide)) ?_
    refine Sm.mCons ?_
    refine Sm.pu (rfl) ?_
    refine Sm.pu rfl ?_
    refine Sm.pu rfl ?_
    refine Sm.ckK (q_law_told_right v5 [] x2) ⟨rfl, rfl, rfl⟩ rfl trivial fun v6 => ?_
    exact Sm.done rfl
  · refine Sm.pu rfl ?_
    refine Sm.opp (all_l _) ?_
    refine Sm.opp rfl ?_
    refine Sm.ifS ?_ ?_
    · intro _
      refine Sm.ret ?_
      refine Sm.pu (rfl) ?_
      exact Sm.done (b := false) ⟨_, rfl, rfl⟩
    · intro _
      refine Sm.nx ?_
      refine Sm.ret ?_
      refine Sm.mA ?_
      refine Sm.mCons ?_
      refine Sm.mLc ?_
      refine Sm.mRg1 ?_
      refine Sm.mCons ?_
      refine Sm.pu (a := D.int (maxI (2 : Int) (minI (script1.length : Int) (8 : Int)))) (a_ok (cons_ok (rfl) (cons_ok (a_ok (cons_ok (a_ok (cons_ok (rfl) nil_ok) (len_sc _)) (cons_ok (rfl) nil_ok)) (min_ii _ _)) nil_ok)) (max_ii _ _)) ?_
      refine Sm.pu rfl ?_
      refine Sm.op (os_rg1 _) fun r8 => ?_
      refine Sm.lcO (ex := D.int) (ey := D.bl) (ρ1 := fun (x9 : Int) => [some (D.scr script1), none, some (D.int x9)]) (f := fun (x9 : Int) => (t_law_cell script1 x9).bind fun v14 =>
        (t_law_hand v14).bind fun v15 =>
        (t_law_right v15).bind fun (v16, o17) =>
        O.ok v16) (fun x9 => rfl) (fun x9 => rfl) ?_ _ fun v18 => ?_
      · intro x9
        refine Sm.ex ?_
        refine Sm.mCallH ?_
        refine Sm.mCons ?_
        refine Sm.mCallH ?_
        refine Sm.mCons ?_
        refine Sm.mCkd ?_
        refine Sm.mCons ?_
        refine Sm.pu (rfl) ?_
        refine Sm.mCons ?_
        refine Sm.pu (rfl) ?_
        refine Sm.pu rfl ?_
        refine Sm.pu rfl ?_
        refine Sm.ckK (q_law_cell script1 x9) ⟨rfl, rfl, rfl⟩ rfl trivial fun v14 => ?_
        refine Sm.pu rfl ?_
        refine Sm.chH (q_law_hand v14) rfl (fun _ => trivial) fun v15 => ?_
        refine Sm.pu rfl ?_
        refine Sm.chH (q_law_right v15) rfl (fun _ => trivial) fun ⟨v16, o17⟩ => ?_
        exact Sm.done rfl
      · refine Sm.pu rfl ?_
        refine Sm.opp (all_l _) ?_
        exact Sm.done (b := (v18.all id)) ⟨_, rfl, rfl⟩)
end Law
namespace Law
open PySem PySem.Spec PyProof.Rows L2 G
/-! ### draws -/
def Hand (h : List Int) : Prop := ∃ a b c, h = [a, b, c]
theorem fmod_pos (a : Int) {b : Int} (h : 0 < b) : a.fmod b = a % b := by rw [Int.fmod_eq_emod_of_nonneg _ (by omega)]
theorem fdiv_pos (a : Int) {b : Int} (h : 0 < b) : a.fdiv b = a / b := by rw [Int.fdiv_eq_ediv_of_nonneg _ (by omega)]
theorem draw_ok {h : List Int} (H : Hand h) {n : Int} (hn : 0 < n) (hm : n < 1073741824) : Ok (t_law_draw h n) fun p => Hand p.2 ∧ 0 ≤ p.1 ∧ p.1 < n := by
  obtain ⟨a, b, c, rfl⟩ := H
  unfold t_law_draw
  refine (Ok.ix (by decide) (by simp)).bd fun v hv => ?_
  refine (Ok.st (Q := fun s => ∃ c', s = [a, b, c']) (by decide) (by simp) ⟨_, rfl⟩).bd ?_
  rintro _ ⟨c', rfl⟩
  refine (Ok.ix (by decide) (by simp)).bd fun v0 hv0 => ?_
  refine Ok.ite (fun _ => ?_) (fun _ => ?_)
  · refine (Ok.ix (by decide) (by simp)).bd fun v1 hv1 => ?_
    refine (Ok.dm (Q := fun p => 0 ≤ p.2 ∧ p.2 < n) ⟨hn, hm⟩ ⟨Int.emod_nonneg _ (by omega), Int.emod_lt_of_pos _ hn⟩).bd ?_
    rintro ⟨q, r⟩ ⟨h1, h2⟩
    refine (Ok.st (Q := fun s => Hand s) (by decide) (by simp) ⟨_, _, _, rfl⟩).bd ?_
    intro s hs
    exact Ok.ret ⟨hs, h1, h2⟩
  · refine (Ok.ix (by decide) (by simp)).bd fun v1 hv1 => ?_
    have h1 := Int.emod_nonneg v1 (show (1000000207 : Int) ≠ 0 by decide)
    have h2 := Int.emod_lt_of_pos v1 (show (0 : Int) < 1000000207 by decide)
    refine (Ok.mulL (Q := fun _ => True) (by rw [fmod_pos _ (by decide)]; omega) trivial).bd fun w _ => ?_
    refine (Ok.ix (by decide) (by simp)).bd fun v2 _ => ?_
    refine (Ok.st (Q := fun s => ∃ b', s = [a, b', c']) (by decide) (by simp) ⟨_, rfl⟩).bd ?_
    rintro _ ⟨b', rfl⟩
    refine (Ok.ix (by decide) (by simp)).bd fun v3 _ => ?_
    refine (Ok.md (Q := fun r => 0 ≤ r ∧ r < n) hn ⟨Int.emod_nonneg _ (by omega), Int.emod_lt_of_pos _ hn⟩).bd fun r hr => ?_
    exact Ok.ret ⟨⟨_, _, _, rfl⟩, hr⟩
theorem hand_ok (c : Int) : Ok (t_law_hand c) Hand := ⟨_, rfl, _, _, _, rfl⟩
theorem sz : sizeLine = 16777216 := rfl
theorem cell_ok (ns : List Int) {k : Int} (hk : 0 ≤ k) (hk2 : k ≤ 1000) : Ok (t_law_cell ns k) fun _ => True := by
  unfold t_law_cell
  refine Ok.ite (fun h => ?_) (fun h => ?_)
  · rw [decide_eq_true_eq] at h
    exact (Ok.ix hk h).bd fun v _ => Ok.ret trivial
  · refine (Ok.mulL (Q := fun _ => True) (by omega) trivial).bd fun v _ => ?_
    refine (Ok.forN (Q := fun _ => True) (fun _ _ => True) (fun x xs s _ => ⟨_, rfl, trivial⟩) (fun _ _ => trivial) trivial).bd fun v _ => Ok.ret trivial
/-! ### names -/
def Sg1 (c : Nat) : Prop := 97 ≤ c ∧ c ≤ 122
def Nm (x : PySem.Str) : Prop := x.cps.toList ≠ [] ∧ x.cps.toList.length ≤ 6 ∧ ∀ c ∈ x.cps.toList, Sg1 c
instance (c : Nat) : Decidable (Sg1 c) := by unfold Sg1; exact inferInstance
instance (x : PySem.Str) : Decidable (Nm x) := by unfold Nm; exact inferInstance
def ltrs : PySem.Str := "abcdefghijklmnopqrstuvwxyz"
theorem ltrs_cps : ltrs.cps.toList = [97, 98, 99, 100, 101, 102, 103, 104, 105, 106, 107, 108, 109, 110, 111, 112, 113, 114, 115, 116, 117, 118, 119, 120, 121, 122] := by decide
theorem ltrs_sg : ∀ c ∈ ltrs.cps.toList, Sg1 c := by decide
theorem ltrs_len : ltrs.cps.toList.length = 26 := by decide
theorem ltrs_nd : ltrs.cps.toList.Nodup := by decide
theorem str_len (x : PySem.Str) : x.length = x.cps.toList.length := by simp [PySem.Str.length]
theorem nm_len {x : PySem.Str} (h : Nm x) : x.length ≤ 6 := by rw [str_len]; exact h.2.1
theorem ixS_ok {r : Int} (h0 : 0 ≤ r) (h1 : r < 26) : Ok (ixS ltrs r) fun s => ∃ c, Sg1 c ∧ s = ⟨#[c]⟩ := by
  obtain ⟨c, e, _, hm⟩ := atI_nat (xs := ltrs.cps.toList) h0 (by rw [ltrs_len]; exact h1)
  have hz : ltrs.length ≤ sizeLine := by decide
  refine ⟨⟨#[c]⟩, ?_, c, ltrs_sg c hm, rfl⟩
  unfold ixS
  rw [if_pos hz, e]
  rfl
theorem join_cs (cs : List Nat) (h : cs.length ≤ 1000) : joinO "" (cs.map fun c => (⟨#[c]⟩ : PySem.Str)) = .ok ⟨cs.toArray⟩ := by
  have e1 : ((cs.map fun c => (⟨#[c]⟩ : PySem.Str)).map (·.length)).sum = cs.length := by
    induction cs with
    | nil => rfl
    | cons c cs ih =>
      have := ih (by simp at h; omega)
      simp only [List.map_cons, List.sum_cons, this, List.length_cons]
      rw [str_len]
      simp
      omega
  have e2 : PySem.Txt.join "" (cs.map fun c => (⟨#[c]⟩ : PySem.Str)) = ⟨cs.toArray⟩ := by
    show PySem.Builtin.Str.glued _ _ = _
    have g : ∀ (l : List Nat) (a : Array Nat), List.foldl (fun (acc : Array Nat) (p : PySem.Str) => acc ++ (("" : PySem.Str).cps ++ p.cps)) a (l.map fun c => (⟨#[c]⟩ : PySem.Str)) = a ++ l.toArray := fun l => by
      induction l with
      | nil => intro a; simp
      | cons c l ih =>
        intro a
        rw [List.map_cons, List.foldl_cons, ih]
        have e0 : ("" : PySem.Str).cps = #[] := rfl
        rw [e0]
        apply Array.toList_inj.mp
        simp
    unfold PySem.Builtin.Str.glued
    cases cs with
    | nil => rfl
    | cons c l =>
      have := g l #[c]
      simp at this ⊢
      rw [this]
  have e3 : (("" : PySem.Str)).length = 0 := rfl
  unfold joinO
  rw [e1, e3, e2, grd_t (by rw [List.length_map]; omega)]
def cand (w : PySem.Str) (c : Nat) : PySem.Str := ⟨(w.cps.toList.take 5 ++ [c]).toArray⟩
theorem cut5 (w : PySem.Str) : cutS w none (some 5) = ⟨(w.cps.toList.take 5).toArray⟩ := by
  have e : HT.sIx w.length w.length (some 5) = min 5 w.length := HT.sIx_nat _ _ 5
  unfold cutS
  rw [HT.sIx_none, e, List.drop_zero, Nat.sub_zero, str_len]
  congr 2
  by_cases h : 5 ≤ w.cps.toList.length
  · rw [Nat.min_eq_left h]
  · rw [Nat.min_eq_right (by omega), List.take_of_length_le (Nat.le_refl _), List.take_of_length_le (by omega)]
theorem cand_eq (w : PySem.Str) (c : Nat) : cutS w none (some 5) ++ (⟨#[c]⟩ : PySem.Str) = cand w c := by
  rw [cut5]
  show PySem.Str.append _ _ = _
  simp [PySem.Str.append, cand]
theorem cand_nm {w : PySem.Str} (h : Nm w) {c : Nat} (hc : Sg1 c) : Nm (cand w c) := by
  refine ⟨by simp [cand], by simp [cand]; omega, fun x hx => ?_⟩
  simp only [cand, List.mem_append, List.mem_singleton] at hx
  rcases hx with z | z
  · exact h.2.2 x (List.mem_of_mem_take z)
  · rw [z]; exact hc
theorem cand_inj {w : PySem.Str} {c d : Nat} (h : cand w c = cand w d) : c = d := by
  simp [cand] at h
  exact h
theorem nodup_map_on {α β : Type} {f : α → β} : ∀ {l : List α}, (∀ a ∈ l, ∀ b ∈ l, f a = f b → a = b) → l.Nodup → (l.map f).Nodup
  | [], _, _ => List.nodup_nil
  | x :: l, hf, h => by
    have h1 := List.nodup_cons.mp h
    refine List.nodup_cons.mpr ⟨fun z => ?_, nodup_map_on (fun a ha b hb => hf a (List.mem_cons_of_mem _ ha) b (List.mem_cons_of_mem _ hb)) h1.2⟩
    obtain ⟨y, hy, e⟩ := List.mem_map.mp z
    exact h1.1 (by rw [← hf y (List.mem_cons_of_mem _ hy) x (List.mem_cons_self ..) e]; exact hy)
theorem nodup_sub {α : Type} [DecidableEq α] : ∀ {l m : List α}, l.Nodup → (∀ x ∈ l, x ∈ m) → l.length ≤ m.length
  | [], m, _, _ => Nat.zero_le _
  | x :: l, m, nd, h => by
    have h1 := List.nodup_cons.mp nd
    have hm := h x (List.mem_cons_self ..)
    have := nodup_sub (l := l) (m := m.erase x) h1.2 fun y hy => (List.mem_erase_of_ne fun e => h1.1 (by rw [← e]; exact hy)).mpr (h y (List.mem_cons_of_mem _ hy))
    rw [List.length_erase_of_mem hm] at this
    have : 0 < m.length := List.length_pos_of_mem hm
    simp
    omega
def ownW : List PySem.Str := ["gauge", "top", "tie", "untie", "turn", "knock", "back", "shows", "all", "can", "fields", "to"]
theorem ownW_nm : ∀ x ∈ ownW, Nm x := by decide
theorem sgs_ltrs : sgs ltrs = ltrs.cps.toList.map fun c => ⟨#[c]⟩ := rfl
abbrev sLt (a b : PySem.Str) : Prop := lt PyData.str a b = true
theorem calls_ok {h : List Int} (H : Hand h) {n : Nat} (hn : n ≤ 20) : Ok (t_law_calls h n) fun p => Hand p.2 ∧ p.1.length = n ∧ (∀ y ∈ p.1, Nm y) ∧ p.1.Pairwise sLt := by
  unfold t_law_calls
  refine Ok.nx (Ok.nx ?_)
  refine (Ok.rg1 (Q := fun r => r = rng 0 n) (by omega) (by omega) rfl).bd ?_
  rintro _ rfl
  refine (Ok.forD (fun ds (s : List Int × List PySem.Str) => Hand s.1 ∧ s.2.length = ds.length ∧ (∀ y ∈ s.2, Nm y) ∧ s.2.Nodup) (Q := fun s => Hand s.1 ∧ s.2.length = n ∧ (∀ y ∈ s.2, Nm y) ∧ s.2.Nodup) ⟨H, rfl, by simp, List.nodup_nil⟩ ?_ ?_).bd ?_
  · rintro ds x rs ⟨hd, xs⟩ e ⟨H, hl, nm, nd⟩
    have hlen : xs.length ≤ 19 := by
      have := congrArg List.length e
      rw [rng_len] at this
      simp at this hl
      omega
    refine (draw_ok H (by decide) (by decide)).bd ?_
    rintro ⟨r, hd⟩ ⟨H, h0, h1⟩
    refine (Ok.ix (xs := ownW) h0 (by exact h1)).bd fun w hw => ?_
    have nw := ownW_nm w hw.2
    refine Ok.bd (P := fun p => Hand p.1 ∧ Nm p.2) ?_ ?_
    · refine (draw_ok H (by decide) (by decide)).bd ?_
      rintro ⟨r, hd⟩ ⟨H, h0, h1⟩
      refine Ok.ite (fun _ => ?_) (fun _ => Ok.ret ⟨H, nw⟩)
      refine (draw_ok H (by decide) (by decide)).bd ?_
      rintro ⟨r, hd⟩ ⟨H, h0, h1⟩
      simp only at h0 h1
      refine (Ok.rg1 (Q := fun l => l = rng 0 (1 + r)) (by omega) (by omega) rfl).bd ?_
      rintro _ rfl
      refine (Ok.lcW Hand (fun _ o => ∃ c, Sg1 c ∧ o = some (⟨#[c]⟩ : PySem.Str)) (by rw [rng_len, sz]; omega) ?_ H).bd ?_
      · intro x hx s H
        refine (draw_ok H (by decide) (by decide)).bd ?_
        rintro ⟨r, hd⟩ ⟨H, h0, h1⟩
        refine (ixS_ok h0 h1).bd ?_
        rintro s ⟨c, hc, rfl⟩
        exact Ok.ret ⟨⟨c, hc, rfl⟩, H⟩
      · rintro ⟨ss, hd⟩ ⟨H, os, hf, e⟩
        have : ∃ cs : List Nat, os = cs.map (fun c => some (⟨#[c]⟩ : PySem.Str)) ∧ ∀ c ∈ cs, Sg1 c := by
          clear e
          generalize rng 0 (1 + r) = l at hf
          induction hf with
          | nil => exact ⟨[], rfl, by simp⟩
          | cons q _ ih =>
            obtain ⟨c, hc, rfl⟩ := q
            obtain ⟨cs, rfl, h⟩ := ih
            exact ⟨c :: cs, rfl, by simpa using ⟨hc, h⟩⟩
        obtain ⟨cs, rfl, hcs⟩ := this
        have hlen := hf.len
        rw [rng_len, List.length_map] at hlen
        have e' : ss = cs.map fun c => (⟨#[c]⟩ : PySem.Str) := by
          rw [show ss = _ from e]
          rw [List.filterMap_map]
          induction cs with
          | nil => rfl
          | cons c cs ih => simp
        subst e'
        simp only
        rw [join_cs cs (by omega)]
        refine Ok.ret ⟨H, ?_, ?_, by simpa using hcs⟩
        · intro z
          simp only at z
          rw [z] at hlen
          simp at hlen
          omega
        · simp only
          omega
    · rintro ⟨hd, w⟩ ⟨H, nw⟩
      simp only
      refine (Ok.lcOe (g := fun x => cutS w none (some 5) ++ x) (Q := fun l => l = ltrs.cps.toList.map (cand w)) (by rw [sgs, List.length_map]; show ltrs.cps.toList.length ≤ _; rw [ltrs_len]; decide) ?_ ?_).bd ?_
      · intro x hx
        obtain ⟨c, hc, rfl⟩ := List.mem_map.mp hx
        have h1 : w.length ≤ sizeLine := Nat.le_trans (nm_len nw) (by decide)
        have h2 : (cutS w none (some 5)).length + (⟨#[c]⟩ : PySem.Str).length ≤ sizeLine := by
          rw [cut5, str_len, str_len, sz]
          simp
          omega
        unfold slS addS
        rw [grd_t h1]
        simp only [O.ok_bind]
        rw [grd_t h2]
        rfl
      · show List.map _ (ltrs.cps.toList.map _) = _
        rw [List.map_map]
        exact List.map_congr_left fun c _ => cand_eq w c
      · rintro _ rfl
        refine (Ok.cat (Q := fun l => l = w :: ltrs.cps.toList.map (cand w)) (by rw [List.length_map, ltrs_len, sz]; simp) rfl).bd ?_
        rintro _ rfl
        refine (Ok.lcF (Q := fun l => l = (w :: ltrs.cps.toList.map (cand w)).filter fun y => !decide (y ∈ xs)) (by rw [List.length_cons, List.length_map, ltrs_len]; decide) (by simp)).bd ?_
        rintro _ rfl
        have hnd : (ltrs.cps.toList.map (cand w)).Nodup := nodup_map_on (fun a _ b _ e => cand_inj e) ltrs_nd
        have hex : ∃ y ∈ ltrs.cps.toList.map (cand w), y ∉ xs := by
          refine Classical.byContradiction fun z => ?_
          have : ∀ y ∈ ltrs.cps.toList.map (cand w), y ∈ xs := fun y hy => Classical.byContradiction fun z2 => z ⟨y, hy, z2⟩
          have := nodup_sub hnd this
          rw [List.length_map, ltrs_len] at this
          omega
        have hall : ∀ y ∈ w :: ltrs.cps.toList.map (cand w), Nm y := fun y hy => by
          rcases List.mem_cons.mp hy with rfl | hy
          · exact nw
          · obtain ⟨c, hc, rfl⟩ := List.mem_map.mp hy
            exact cand_nm nw (ltrs_sg c hc)
        have hne : 0 < ((w :: ltrs.cps.toList.map (cand w)).filter fun y => !decide (y ∈ xs)).length := by
          obtain ⟨y, hy, hn⟩ := hex
          exact List.length_pos_of_mem (List.mem_filter.mpr ⟨List.mem_cons_of_mem _ hy, by simpa using hn⟩)
        refine (Ok.ix (by decide) (by omega)).bd fun y hy => ?_
        obtain ⟨hy1, hy2⟩ := List.mem_filter.mp hy.2
        refine (Ok.app (Q := fun l => l = xs ++ [y]) (by rw [sz]; omega) rfl).bd ?_
        rintro _ rfl
        refine Ok.ret ⟨H, by simpa using hl, ?_, ?_⟩
        · intro z hz
          rcases List.mem_append.mp hz with q | q
          · exact nm z q
          · rw [List.mem_singleton.mp q]; exact hall y hy1
        · refine List.nodup_append.mpr ⟨nd, by simp, fun a ha b hb e => ?_⟩
          rw [List.mem_singleton.mp hb] at e
          subst e
          simp [ha] at hy2
  · rintro ⟨hd, xs⟩ ⟨H, hl, nm, nd⟩
    refine ⟨H, ?_, nm, nd⟩
    rw [hl, rng_len]
    simp
  · rintro ⟨hd, xs⟩ ⟨H, hl, nm, nd⟩
    refine Ok.ret ⟨H, by rw [srt_len]; exact hl, fun y hy => nm y (mem_srt.mp hy), ety_str.srt_lt nd⟩
end Law
namespace Law
open PySem PySem.Spec PyProof.Rows L2 G
/-! ### who are tied -/
def at0 (sp : List Int) (k : Nat) : Int := sp.getD k 0
theorem at0_get {sp : List Int} {i : Nat} (hi : i < sp.length) : at0 sp i = sp[i] := by simp [at0, hi]
theorem at0_inj {sp : List Int} (nd : sp.Nodup) {i j : Nat} (hi : i < sp.length) (hj : j < sp.length) (e : at0 sp i = at0 sp j) : i = j := by
  rw [at0_get hi, at0_get hj] at e
  exact (List.getElem_inj nd).mp e
theorem at0_mem {sp : List Int} {i : Nat} (hi : i < sp.length) : at0 sp i ∈ sp := by
  rw [at0_get hi]
  exact List.getElem_mem _
theorem ix_at0 {sp : List Int} {i : Int} (h0 : 0 ≤ i) (h1 : i < sp.length) : ixL sp i = .ok (at0 sp i.toNat) := by
  have h2 : i.toNat < sp.length := by omega
  simp [ixL, atI, ixN, h0, h1, at0, h2]
def mm (a b : Int) : Int × Int := (minI a b, maxI a b)
theorem mm_eq {a b c d : Int} (e : mm a b = mm c d) : (a = c ∧ b = d) ∨ (a = d ∧ b = c) := by
  unfold mm minI maxI at e
  simp only [Prod.mk.injEq] at e
  obtain ⟨e1, e2⟩ := e
  split at e1 <;> split at e1 <;> split at e2 <;> split at e2 <;> omega
theorem erase_perm {α : Type} : ∀ {xs : List α} {i : Nat} (h : i < xs.length), (xs[i] :: xs.eraseIdx i).Perm xs
  | x :: xs, 0, h => List.Perm.refl _
  | x :: xs, i + 1, h => by
    have ih := erase_perm (xs := xs) (i := i) (by simpa using h)
    simp only [List.getElem_cons_succ, List.eraseIdx_cons_succ]
    exact (List.Perm.swap _ _ _).trans (ih.cons x)
def PP1 (n : Nat) (p : Int × Int) : Prop := 0 ≤ p.1 ∧ p.1 < p.2 ∧ p.2 < n
def PP (n : Nat) (ps : List (Int × Int)) : Prop := ps.Nodup ∧ ps.length ≤ 1000 ∧ ∀ p ∈ ps, PP1 n p
theorem mm_in {n : Nat} {a b : Int} (ha : 0 ≤ a ∧ a < n) (hb : 0 ≤ b ∧ b < n) (h : a ≠ b) : PP1 n (mm a b) := by
  unfold mm minI maxI PP1
  dsimp only
  split <;> split <;> omega
def chain (sp : List Int) : List (Int × Int) := (rng 0 ((sp.length : Int) - 1)).map fun k => mm (at0 sp k.toNat) (at0 sp (k + 1).toNat)
structure Spots (n : Nat) (sp : List Int) : Prop where
  nd : sp.Nodup
  ln : sp.length = n
  rg : ∀ x ∈ sp, 0 ≤ x ∧ x < n
theorem pp_chain {n : Nat} (hn : n ≤ 20) {sp : List Int} (S : Spots n sp) : PP n (chain sp) := by
  have hl := S.ln
  refine ⟨nodup_map_on (fun a ha b hb e => ?_) (rng_nodup _ _), ?_, fun p hp => ?_⟩
  · have ha := mem_rng.mp ha
    have hb := mem_rng.mp hb
    rcases mm_eq e with z | z
    · have := at0_inj S.nd (by omega) (by omega) z.1
      omega
    · have z1 := at0_inj S.nd (by omega) (by omega) z.1
      have z2 := at0_inj S.nd (by omega) (by omega) z.2
      omega
  · unfold chain
    rw [List.length_map, rng_len]
    omega
  · obtain ⟨k, hk, rfl⟩ := List.mem_map.mp hp
    have hk := mem_rng.mp hk
    refine mm_in (S.rg _ (at0_mem (by omega))) (S.rg _ (at0_mem (by omega))) fun e => ?_
    have := at0_inj S.nd (by omega) (by omega) e
    omega
theorem pp_ring {n : Nat} (hn : n ≤ 20) (h2 : 2 < n) {sp : List Int} (S : Spots n sp) : PP n (chain sp ++ [mm (at0 sp 0) (at0 sp (n - 1))]) := by
  have hl := S.ln
  obtain ⟨h3, h4, h5⟩ := pp_chain hn S
  refine ⟨List.nodup_append.mpr ⟨h3, by simp, fun a ha b hb e => ?_⟩, ?_, fun p hp => ?_⟩
  · rw [List.mem_singleton.mp hb] at e
    obtain ⟨k, hk, rfl⟩ := List.mem_map.mp ha
    have hk := mem_rng.mp hk
    rcases mm_eq e with z | z
    · have z1 := at0_inj S.nd (by omega) (by omega) z.1
      have z2 := at0_inj S.nd (by omega) (by omega) z.2
      omega
    · have z1 := at0_inj S.nd (by omega) (by omega) z.1
      have z2 := at0_inj S.nd (by omega) (by omega) z.2
      omega
  · unfold chain
    rw [List.length_append, List.length_map, rng_len]
    simp
    omega
  · rcases List.mem_append.mp hp with hp | hp
    · exact h5 p hp
    · rw [List.mem_singleton.mp hp]
      refine mm_in (S.rg _ (at0_mem (by omega))) (S.rg _ (at0_mem (by omega))) fun e => ?_
      have := at0_inj S.nd (by omega) (by omega) e
      omega
theorem cut1 {α : Type} (xs : List α) : cutL xs (some 1) none = xs.drop 1 := by
  unfold cutL
  have e : HT.sIx xs.length 0 (some 1) = min 1 xs.length := HT.sIx_nat _ _ 1
  rw [HT.sIx_none, e]
  cases xs with
  | nil => rfl
  | cons x xs =>
    rw [List.length_cons, Nat.min_eq_left (by omega), List.take_of_length_le (by simp)]
theorem pp_star {n : Nat} (hn : n ≤ 20) {sp : List Int} (S : Spots n sp) : PP n ((sp.drop 1).map fun x => mm (at0 sp 0) x) := by
  have hl := S.ln
  have hm : ∀ x ∈ sp.drop 1, x ∈ sp ∧ x ≠ at0 sp 0 := fun x hx => by
    refine ⟨List.mem_of_mem_drop hx, fun e => ?_⟩
    obtain ⟨i, hi, e2⟩ := List.mem_iff_getElem.mp hx
    rw [List.getElem_drop] at e2
    rw [List.length_drop] at hi
    have := at0_inj S.nd (i := 1 + i) (j := 0) (by omega) (by omega) (by rw [at0_get (by omega), e2, e])
    omega
  refine ⟨nodup_map_on (fun a ha b hb e => ?_) (S.nd.sublist (List.drop_sublist _ _)), by rw [List.length_map, List.length_drop]; omega, fun p hp => ?_⟩
  · rcases mm_eq e with z | z
    · exact z.2
    · exact absurd z.2 (hm a ha).2
  · obtain ⟨x, hx, rfl⟩ := List.mem_map.mp hp
    have h0 : 0 < sp.length := by
      have := List.length_pos_of_mem (hm x hx).1
      omega
    exact mm_in (S.rg _ (at0_mem h0)) (S.rg _ (hm x hx).1) fun e => (hm x hx).2 e.symm
theorem F2.sub {xs ys : List α} {os : List (Option α)} (h : F2 (fun x o => o = some x ∨ o = none) xs os) (e : ys = os.filterMap id) : ys.Sublist xs := by
  subst e
  induction h with
  | nil => exact List.Sublist.refl _
  | cons r _ ih =>
    rcases r with rfl | rfl
    · simpa using ih
    · simp only [List.filterMap_cons, id]
      exact ih.cons _
theorem pp_nil {n : Nat} : PP n [] := ⟨List.nodup_nil, Nat.zero_le _, by simp⟩
theorem pp_sub {n : Nat} {xs ys : List (Int × Int)} (h : PP n xs) (s : ys.Sublist xs) : PP n ys := ⟨h.1.sublist s, Nat.le_trans s.length_le h.2.1, fun p hp => h.2.2 p (s.subset hp)⟩
abbrev pLt (a b : Int × Int) : Prop := lt (pP PyData.int PyData.int) a b = true
theorem pairs_ok {h : List Int} (H : Hand h) {n : Nat} (hn : n ≤ 20) : Ok (t_law_pairs h n) fun p => Hand p.2 ∧ (∀ q ∈ p.1, PP1 n q) ∧ p.1.Pairwise pLt ∧ p.1.length ≤ 1000 := by
  unfold t_law_pairs
  refine (Ok.lr (Q := fun r => r = rng 0 n) (by omega) (by omega) rfl).bd ?_
  rintro _ rfl
  refine (draw_ok H (by decide) (by decide)).bd ?_
  rintro ⟨way, hd⟩ ⟨H, w0, w1⟩
  simp only at w0 w1 ⊢
  have hs := sz
  refine (Ok.wh (fun s => s.2.1.length) (fun s : List Int × List Int × List Int => Hand s.1 ∧ (s.2.1 ++ s.2.2).Perm (rng 0 n)) (Q := fun s => Hand s.1 ∧ Spots n s.2.2) ?_ ?_ ?_ ?_).bd ?_
  · exact fun s _ => ⟨_, rfl⟩
  · rintro ⟨hd, left, spots⟩ ⟨H, pm⟩ hc
    simp only at pm hc ⊢
    have hne : left ≠ [] := by
      intro z
      simp [z] at hc
    have hlen := pm.length_eq
    rw [List.length_append, rng_len] at hlen
    have hpos : 0 < left.length := List.length_pos_iff.mpr hne
    refine (draw_ok H (by omega) (by omega)).bd ?_
    rintro ⟨r, hd⟩ ⟨H, r0, r1⟩
    simp only at r0 r1 ⊢
    refine (Ok.popAt r0 r1 (by omega)).bd ?_
    rintro ⟨v, l2⟩ ⟨hv, rfl⟩
    simp only at hv ⊢
    refine (Ok.app (Q := fun l => l = spots ++ [v]) (by omega) rfl).bd ?_
    rintro _ rfl
    have hi : r.toNat < left.length := by omega
    rw [List.getElem?_eq_getElem hi] at hv
    simp only [Option.some.injEq] at hv
    refine Ok.ret ⟨⟨H, ?_⟩, ?_⟩
    · refine List.Perm.trans ?_ pm
      have h1 := erase_perm hi
      rw [hv] at h1
      have h2 : (left.eraseIdx r.toNat ++ (spots ++ [v])).Perm (v :: (left.eraseIdx r.toNat ++ spots)) := by
        rw [← List.append_assoc]
        exact List.perm_append_singleton _ _
      exact h2.trans (h1.append_right spots)
    · simp only
      rw [List.length_eraseIdx_of_lt hi]
      omega
  · refine ⟨H, ?_⟩
    simp
  · rintro ⟨hd, left, spots⟩ ⟨H, pm⟩ hc
    have hz : left = [] := by
      simp only [O.ok.injEq, Bool.not_eq_false', decide_eq_true_eq] at hc
      exact hc
    subst hz
    simp only [List.nil_append] at pm
    refine ⟨H, pm.nodup_iff.mpr (rng_nodup _ _), ?_, fun x hx => ?_⟩
    · have := pm.length_eq
      rw [rng_len] at this
      simpa using this
    · have := mem_rng.mp (pm.mem_iff.mp hx)
      omega
  rintro ⟨hd, left, sp⟩ ⟨H, S⟩
  simp only at S ⊢
  have hl := S.ln
  refine (Ok.rg1 (Q := fun r => r = rng 0 n) (by omega) (by omega) rfl).bd ?_
  rintro _ rfl
  refine (Ok.forD (fun ds (acc : List (Int × Int)) => acc.Nodup ∧ acc.length ≤ ds.length * 20 ∧ ∀ p ∈ acc, PP1 n p ∧ p.1 ∈ ds) (Q := fun acc => PP n acc) ⟨List.nodup_nil, Nat.zero_le _, by simp⟩ ?_ ?_).bd ?_
  · rintro ds k rs acc e ⟨nd, la, ha⟩
    have hk : k ∈ rng 0 n := by rw [e]; simp
    have hk := mem_rng.mp hk
    have hd : k ∉ ds := fun z => by
      have := rng_nodup 0 n
      rw [e] at this
      exact (List.nodup_append.mp this).2.2 k z k (List.mem_cons_self ..) rfl
    have hds : ds.length ≤ 20 := by
      have := congrArg List.length e
      rw [rng_len] at this
      simp at this
      omega
    refine (Ok.rg2 (Q := fun r => r = rng (k + 1) n) (by omega) rfl).bd ?_
    rintro _ rfl
    have hr : (rng (k + 1) n).length ≤ 20 := by rw [rng_len]; omega
    refine (Ok.lcM (Q := fun l => l = (rng (k + 1) n).map fun j => (k, j)) (by omega) rfl).bd ?_
    rintro _ rfl
    refine (Ok.ext (Q := fun l => l = acc ++ (rng (k + 1) n).map fun j => (k, j)) (by rw [List.length_map]; omega) rfl).bd ?_
    rintro _ rfl
    refine Ok.ret ⟨List.nodup_append.mpr ⟨nd, nodup_map_on (fun a _ b _ e => (Prod.mk.inj e).2) (rng_nodup _ _), fun a ha' b hb e => ?_⟩, by rw [List.length_append, List.length_map, List.length_append]; simp; omega, fun p hp => ?_⟩
    · subst e
      obtain ⟨j, _, rfl⟩ := List.mem_map.mp hb
      exact hd (ha _ ha').2
    · rcases List.mem_append.mp hp with hp | hp
      · exact ⟨(ha p hp).1, List.mem_append_left _ (ha p hp).2⟩
      · obtain ⟨j, hj, rfl⟩ := List.mem_map.mp hp
        have hj := mem_rng.mp hj
        exact ⟨⟨hk.1, by dsimp only; omega, by dsimp only; omega⟩, by simp⟩
  · rintro acc ⟨nd, la, ha⟩
    rw [rng_len] at la
    exact ⟨nd, by omega, fun p hp => (ha p hp).1⟩
  intro every pe
  refine (Ok.ix w0 (by exact w1)).bd ?_
  rintro f34 ⟨_, hf⟩
  have p34 : PP n f34 := by
    simp only [List.mem_cons, List.not_mem_nil, or_false] at hf
    rcases hf with rfl | rfl | rfl | rfl | rfl | rfl
    all_goals first | exact pp_nil | exact pe
  refine Ok.bd (P := fun f => PP n f ∧ (way = 2 → f = chain sp)) ?_ ?_
  · refine Ok.ite (fun hw => ?_) (fun hw => Ok.ret ⟨p34, fun z => ?_⟩)
    · refine (Ok.rg1 (Q := fun r => r = rng 0 ((n : Int) - 1)) (by omega) (by omega) rfl).bd ?_
      rintro _ rfl
      refine (Ok.lcOe (g := fun k => mm (at0 sp k.toNat) (at0 sp (k + 1).toNat)) (Q := fun l => l = chain sp) (by rw [rng_len]; omega) ?_ ?_).bd ?_
      · intro k hk
        have hk := mem_rng.mp hk
        rw [ix_at0 (sp := sp) (by omega) (by omega), ix_at0 (sp := sp) (i := k + 1) (by omega) (by omega)]
        rfl
      · unfold chain
        rw [hl]
      · rintro _ rfl
        exact Ok.ret ⟨pp_chain hn S, fun _ => rfl⟩
    · rw [z] at hw
      exact absurd hw (by decide)
  rintro f46 ⟨p46, c46⟩
  refine Ok.bd (P := fun f => PP n f) ?_ ?_
  · refine Ok.ite (fun hw => ?_) (fun hw => Ok.ret p46)
    simp only [Bool.and_eq_true, decide_eq_true_eq] at hw
    rw [ix_at0 (sp := sp) (i := 0) (by omega) (by omega), ix_at0 (sp := sp) (i := (n : Int) - 1) (by omega) (by omega)]
    simp only [O.ok_bind]
    refine (Ok.cat (Q := fun l => PP n l) (by simp; have := p46.2.1; omega) ?_).bd fun l pl => Ok.ret pl
    rw [c46 hw.1]
    have e : ((n : Int) - 1).toNat = n - 1 := by omega
    rw [e]
    exact pp_ring hn (by omega) S
  intro f63 p63
  refine Ok.bd (P := fun f => PP n f) ?_ ?_
  · refine Ok.ite (fun hw => ?_) (fun hw => Ok.ret p63)
    rw [cut1]
    refine (Ok.lcOe (g := fun x => mm (at0 sp 0) x) (Q := fun l => PP n l) (by rw [List.length_drop]; omega) ?_ (pp_star hn S)).bd fun l pl => Ok.ret pl
    intro x hx
    have := List.length_pos_of_mem (List.mem_of_mem_drop hx)
    rw [ix_at0 (sp := sp) (i := 0) (by omega) (by omega)]
    rfl
  intro f75 p75
  refine Ok.bd (P := fun p => Hand p.1 ∧ PP n p.2) ?_ ?_
  · refine Ok.ite (fun hw => ?_) (fun hw => Ok.ret ⟨H, p75⟩)
    refine (Ok.lcW Hand (fun x o => o = some x ∨ o = none) (by have := pe.2.1; omega) ?_ H).bd ?_
    · intro x _ s H
      refine (draw_ok H (by decide) (by decide)).bd ?_
      rintro ⟨r, hd⟩ ⟨H, r0, r1⟩
      exact Ok.ite (fun _ => Ok.ret ⟨.inl rfl, H⟩) (fun _ => Ok.ret ⟨.inr rfl, H⟩)
    · rintro ⟨l, hd⟩ ⟨H, os, hf, e⟩
      exact Ok.ret ⟨H, pp_sub pe (F2.sub hf e)⟩
  rintro ⟨hd, f⟩ ⟨H, pf⟩
  refine Ok.ret ⟨H, fun q hq => pf.2.2 q (mem_srt.mp hq), (ety_p ety_int ety_int).srt_lt pf.1, by rw [srt_len]; exact pf.2.1⟩
end Law
namespace G
open PySem PySem.Spec PyProof.Rows L2
theorem lt_pP {α β : Type} {e : α → D} {p : α → PyData} {n : Nat} {f : β → D} {q : β → PyData} {m : Nat} (h : Ety e p n) (k : Ety f q m) [DecidableEq α] (a b : α × β) : lt (pP p q) a b = if a.1 = b.1 then lt q a.2 b.2 else lt p a.1 b.1 := by
  unfold lt pP
  rw [PySem.W.dataLt_tuple]
  split
  · rename_i e1
    rw [PySem.W.dataLt_all_yes (h.al _ _) ((h.ev _ _).mpr e1)]
    cases hv : PyData.eqv (q a.2) (q b.2) with
    | true =>
      rw [PySem.W.dataLt_all_yes (k.al _ _) hv]
      have := (k.ev _ _).mp hv
      rw [this]
      have h1 : PySem.W.dataLt (q b.2) (q b.2) = false := lex_irrefl _
      rw [h1]
      exact lex_irrefl _
    | false => rw [PySem.W.dataLt_all_no (k.al _ _) hv]
  · rename_i e1
    refine PySem.W.dataLt_all_no (h.al _ _) ?_
    cases hv : PyData.eqv (p a.1) (p b.1) with
    | true => exact absurd ((h.ev _ _).mp hv) e1
    | false => rfl
end G
namespace Law
open PySem PySem.Spec PyProof.Rows L2 G
/-! ### who stands beside whom -/
def nearL (n : Nat) (ps : List (Int × Int)) : List (List Int) := (rng 0 n).map fun k => srt PyData.int ((ps.filter fun p => decide (p.1 = k)).map (·.2) ++ (ps.filter fun p => decide (p.2 = k)).map (·.1))
theorem near_ok {n : Nat} (hn : n ≤ 20) {ps : List (Int × Int)} (hp : ps.length ≤ 1000) : t_law_near n ps = .ok (nearL n ps) := by
  have hs := sz
  refine Ok.eq ?_
  unfold t_law_near
  refine (Ok.rg1 (Q := fun r => r = rng 0 n) (by omega) (by omega) rfl).bd ?_
  rintro _ rfl
  rw [O.bind_ok]
  refine Ok.lcOe (g := fun k => srt PyData.int ((ps.filter fun p => decide (p.1 = k)).map (·.2) ++ (ps.filter fun p => decide (p.2 = k)).map (·.1))) (by rw [rng_len]; omega) ?_ rfl
  intro k hk
  have h1 := List.length_filter_le (fun p : Int × Int => decide (p.1 = k)) ps
  have h2 := List.length_filter_le (fun p : Int × Int => decide (p.2 = k)) ps
  unfold lcF
  rw [grd_t (by omega), grd_t (by omega)]
  simp only [O.ok_bind]
  unfold catL
  rw [grd_t (by rw [List.length_map, List.length_map]; omega)]
  rfl
/-! ### moors drawn -/
structure MD (calls : List PySem.Str) (highs : List Int) (near : List (List Int)) (ps : List (Int × Int)) : Prop where
  n1 : 1 ≤ highs.length
  n12 : highs.length ≤ 12
  cl : calls.length = highs.length
  nm : ∀ c ∈ calls, Nm c
  cs : calls.Pairwise sLt
  hr : ∀ h ∈ highs, 0 ≤ h ∧ h ≤ 1000000000
  ne : near = nearL highs.length ps
  pr : ∀ p ∈ ps, PP1 highs.length p
  pp : ps.Pairwise pLt
  pl : ps.length ≤ 1000
theorem moor_end {h : List Int} (H : Hand h) {highs : List Int} (n1 : 1 ≤ highs.length) (n12 : highs.length ≤ 12) (hr : ∀ h ∈ highs, 0 ≤ h ∧ h ≤ 1000000000) {n : Int} (hn : n = highs.length) :
    Ok ((t_law_pairs h n).bind fun (p, h) => (t_law_calls h n).bind fun (c, h) => (t_law_near n p).bind fun v => O.ok ((c, highs, v, p), h)) fun q => Hand q.2 ∧ q.1.2.1 = highs ∧ MD q.1.1 q.1.2.1 q.1.2.2.1 q.1.2.2.2 := by
  subst hn
  refine (pairs_ok H (by omega)).bd ?_
  rintro ⟨ps, hd⟩ ⟨H, pr, pp, pl⟩
  refine (calls_ok H (by omega)).bd ?_
  rintro ⟨cs, hd⟩ ⟨H, cl, nm, cw⟩
  simp only at pr pp pl cl nm cw ⊢
  rw [near_ok (by omega) pl]
  exact Ok.ret ⟨H, rfl, n1, n12, cl, nm, cw, hr, rfl, pr, pp, pl⟩
theorem small_ok {h : List Int} (H : Hand h) {most : Int} (h4 : 10 ≤ most) (h5 : most ≤ 1000000) : Ok (t_law_moor_small h most) fun q => Hand q.2 ∧ q.1.2.1.length ≤ 6 ∧ (∀ h ∈ q.1.2.1, h ≤ 9) ∧ (q.1.2.1.map (· + 1)).foldl (· * ·) 1 ≤ most ∧ MD q.1.1 q.1.2.1 q.1.2.2.1 q.1.2.2.2 := by
  have hs := sz
  unfold t_law_moor_small
  refine (draw_ok H (by decide) (by decide)).bd ?_
  rintro ⟨r, hd⟩ ⟨H, r0, r1⟩
  simp only at r0 r1 ⊢
  refine (Ok.rg1 (Q := fun l => l = rng 0 (1 + r)) (by omega) (by omega) rfl).bd ?_
  rintro _ rfl
  refine (Ok.forD (fun ds (s : List Int × List Int × Int) => Hand s.1 ∧ (1 ≤ ds.length → 1 ≤ s.2.1.length) ∧ s.2.1.length ≤ ds.length ∧ (∀ x ∈ s.2.1, 0 ≤ x ∧ x ≤ 9) ∧ s.2.2 = (s.2.1.map (· + 1)).foldl (· * ·) 1 ∧ 1 ≤ s.2.2 ∧ s.2.2 ≤ most ∧ (s.2.1 = [] → s.2.2 = 1)) (Q := fun s => Hand s.1 ∧ 1 ≤ s.2.1.length ∧ s.2.1.length ≤ 6 ∧ (∀ x ∈ s.2.1, 0 ≤ x ∧ x ≤ 9) ∧ (s.2.1.map (· + 1)).foldl (· * ·) 1 ≤ most) ⟨H, by simp, by simp, by simp, rfl, Int.le_refl _, by dsimp only; omega, fun _ => rfl⟩ ?_ ?_).bd ?_
  · rintro ds x rs ⟨hd, xs, size⟩ e ⟨H, hl1, hl2, hx, he, h1, h2, h3⟩
    simp only at hl1 hl2 hx he h1 h2 h3 ⊢
    have hds : ds.length + 1 ≤ 6 := by
      have := congrArg List.length e
      rw [rng_len] at this
      simp at this
      omega
    refine (draw_ok H (by decide) (by decide)).bd ?_
    rintro ⟨a, hd⟩ ⟨H, a0, a1⟩
    refine (draw_ok H (by decide) (by decide)).bd ?_
    rintro ⟨b, hd⟩ ⟨H, b0, b1⟩
    refine (draw_ok H (by decide) (by decide)).bd ?_
    rintro ⟨c, hd⟩ ⟨H, c0, c1⟩
    refine (draw_ok H (by decide) (by decide)).bd ?_
    rintro ⟨w, hd5⟩ ⟨H5, w0, w1⟩
    simp only at a0 a1 b0 b1 c0 c1 w0 w1 ⊢
    refine (Ok.ix w0 (by exact w1)).bd ?_
    rintro y ⟨_, hy⟩
    have hy : 0 ≤ y ∧ y ≤ 9 := by
      simp only [List.mem_cons, List.not_mem_nil, or_false] at hy
      omega
    refine Ok.bd (P := fun p : List Int × Int => (p.1 = xs ∧ p.2 = size ∧ xs ≠ []) ∨ (p.1 = xs ++ [y] ∧ p.2 = size * (y + 1) ∧ size * (y + 1) ≤ most)) ?_ ?_
    · refine (Ok.mulL (Q := fun v => v = size * (y + 1)) (by omega) rfl).bd ?_
      rintro _ rfl
      refine Ok.ite (fun hc => ?_) (fun hc => Ok.ret (.inl ⟨rfl, rfl, fun z => ?_⟩))
      · rw [decide_eq_true_eq] at hc
        refine (Ok.cat (Q := fun l => l = xs ++ [y]) (by simp; omega) rfl).bd ?_
        rintro _ rfl
        refine (Ok.mulL (Q := fun v => v = size * (y + 1)) (by omega) rfl).bd ?_
        rintro _ rfl
        exact Ok.ret (.inr ⟨rfl, rfl, hc⟩)
      · rw [h3 z] at hc
        simp at hc
        omega
    · rintro ⟨xs', size'⟩ hp
      simp only at hp ⊢
      rcases hp with ⟨rfl, rfl, hne⟩ | ⟨rfl, rfl, hm⟩
      · exact Ok.ret ⟨H5, fun _ => List.length_pos_iff.mpr hne, by simp; omega, hx, he, h1, h2, fun z => absurd z hne⟩
      · have hpos : 1 ≤ size * (y + 1) := by
          have := Int.mul_le_mul_of_nonneg_left (show (1 : Int) ≤ y + 1 by omega) (show 0 ≤ size by omega)
          omega
        refine Ok.ret ⟨H5, fun _ => by simp, by simp; omega, fun z hz => ?_, ?_, hpos, hm, by simp⟩
        · rcases List.mem_append.mp hz with hz | hz
          · exact hx z hz
          · rw [List.mem_singleton.mp hz]; exact hy
        · rw [he, List.map_append, List.foldl_append]
          rfl
  · rintro ⟨hd, xs, size⟩ ⟨H, hl1, hl2, hx, he, h1, h2, h3⟩
    rw [rng_len] at hl1 hl2
    exact ⟨H, hl1 (by omega), by dsimp only at hl2 ⊢; omega, hx, by dsimp only at he h2 ⊢; omega⟩
  · rintro ⟨hd, xs, size⟩ ⟨H, n1, n6, hx, hm⟩
    refine (moor_end H n1 (by dsimp only at n6 ⊢; omega) (fun h hh => by have := hx h hh; omega) rfl).imp ?_
    rintro q ⟨H, e, md⟩
    rw [e] at *
    exact ⟨H, n6, fun h hh => (hx h hh).2, hm, md⟩
theorem great_ok {h : List Int} (H : Hand h) : Ok (t_law_moor_great h) fun q => Hand q.2 ∧ MD q.1.1 q.1.2.1 q.1.2.2.1 q.1.2.2.2 := by
  have hs := sz
  unfold t_law_moor_great
  refine (draw_ok H (by decide) (by decide)).bd ?_
  rintro ⟨r, hd⟩ ⟨H, r0, r1⟩
  refine (draw_ok H (by decide) (by decide)).bd ?_
  rintro ⟨w, hd⟩ ⟨H, w0, w1⟩
  simp only at r0 r1 w0 w1 ⊢
  refine (Ok.ix w0 (by exact w1)).bd ?_
  rintro base ⟨_, hb⟩
  have hb : 1 ≤ base ∧ base ≤ 100000000 := by
    simp only [List.mem_cons, List.not_mem_nil, or_false] at hb
    omega
  refine (Ok.rg1 (Q := fun l => l = rng 0 (1 + r)) (by omega) (by omega) rfl).bd ?_
  rintro _ rfl
  refine (Ok.forD (fun ds (s : List Int × List Int) => Hand s.1 ∧ s.2.length = ds.length ∧ ∀ x ∈ s.2, 0 ≤ x ∧ x ≤ 1000000000) (Q := fun s => Hand s.1 ∧ (s.2.length : Int) = 1 + r ∧ ∀ x ∈ s.2, 0 ≤ x ∧ x ≤ 1000000000) ⟨H, rfl, by simp⟩ ?_ ?_).bd ?_
  · rintro ds x rs ⟨hd, xs⟩ e ⟨H, hl, hx⟩
    have hds : ds.length ≤ 13 := by
      have := congrArg List.length e
      rw [rng_len] at this
      simp at this
      omega
    refine (draw_ok H (by decide) (by decide)).bd ?_
    rintro ⟨a, hd⟩ ⟨H, a0, a1⟩
    simp only at a0 a1 ⊢
    have hm0 : 0 ≤ base * (1 + a) := Int.mul_nonneg (by omega) (by omega)
    refine (Ok.mulL (Q := fun v => 0 ≤ v) (by omega) hm0).bd ?_
    intro v27 hv
    refine (draw_ok H (by decide) (by decide)).bd ?_
    rintro ⟨b, hd⟩ ⟨H, b0, b1⟩
    refine (draw_ok H (by decide) (by decide)).bd ?_
    rintro ⟨c, hd⟩ ⟨H, c0, c1⟩
    simp only at b0 b1 c0 c1 hl hx ⊢
    refine (Ok.cat (Q := fun l => l = [1000000000, base, base - 1, v27, b, c]) (by simp [hs]) rfl).bd ?_
    rintro _ rfl
    refine (draw_ok H (by decide) (by decide)).bd ?_
    rintro ⟨d, hd⟩ ⟨H, d0, d1⟩
    refine (Ok.ix d0 (by exact d1)).bd ?_
    rintro y ⟨_, hy⟩
    have hy : 0 ≤ y := by
      simp only [List.mem_cons, List.not_mem_nil, or_false] at hy
      omega
    refine (Ok.app (Q := fun l => l = xs ++ [minI 1000000000 y]) (by omega) rfl).bd ?_
    rintro _ rfl
    refine Ok.ret ⟨H, by simpa using hl, fun z hz => ?_⟩
    rcases List.mem_append.mp hz with hz | hz
    · exact hx z hz
    · rw [List.mem_singleton.mp hz]
      unfold minI
      split <;> omega
  · rintro ⟨hd, xs⟩ ⟨H, hl, hx⟩
    rw [rng_len] at hl
    exact ⟨H, by dsimp only at hl ⊢; omega, hx⟩
  · rintro ⟨hd, xs⟩ ⟨H, hl, hx⟩
    simp only at hl hx ⊢
    exact (moor_end H (by omega) (by omega) hx hl.symm).imp fun q h => ⟨h.1, h.2.2⟩
/-! ### what all show -/
def SatOk (highs sat : List Int) : Prop := F2 (fun h s => 0 ≤ s ∧ s ≤ h) highs sat
theorem maxL_le {x : Int} {xs : List Int} {b : Int} (h : ∀ y ∈ x :: xs, y ≤ b) : maxL x xs ≤ b ∧ x ≤ maxL x xs := by
  unfold maxL
  induction xs generalizing x with
  | nil => exact ⟨h x (List.mem_cons_self ..), Int.le_refl _⟩
  | cons y xs ih =>
    rw [List.foldl_cons]
    have hx := h x (List.mem_cons_self ..)
    have hy := h y (List.mem_cons_of_mem _ (List.mem_cons_self ..))
    split
    · have := ih (x := y) fun z hz => by
        rcases List.mem_cons.mp hz with rfl | hz
        · exact hy
        · exact h z (List.mem_cons_of_mem _ (List.mem_cons_of_mem _ hz))
      omega
    · exact ih (x := x) fun z hz => by
        rcases List.mem_cons.mp hz with rfl | hz
        · exact hx
        · exact h z (List.mem_cons_of_mem _ (List.mem_cons_of_mem _ hz))
theorem F2.snoc {α β : Type} {R : α → β → Prop} {xs : List α} {ys : List β} {x : α} {y : β} (h : F2 R xs ys) (r : R x y) : F2 R (xs ++ [x]) (ys ++ [y]) := by
  induction h with
  | nil => exact .cons r .nil
  | cons q _ ih => exact .cons q ih
theorem sat_ok {h : List Int} (H : Hand h) {highs : List Int} (n12 : highs.length ≤ 12) (hr : ∀ h ∈ highs, 0 ≤ h ∧ h ≤ 1000000000) : Ok (t_law_sat h highs) fun p => Hand p.2 ∧ SatOk highs p.1 := by
  have hs := sz
  unfold t_law_sat
  refine (Ok.lcM (Q := fun l => l = highs.map fun x => x.fdiv 2) (by omega) rfl).bd ?_
  rintro _ rfl
  refine (Ok.cat (Q := fun l => l = 0 :: highs.map fun x => x.fdiv 2) (by rw [List.length_map]; simp; omega) rfl).bd ?_
  rintro _ rfl
  refine Ok.bd (P := fun v => 0 ≤ v ∧ v ≤ 500000000) ⟨_, rfl, ?_⟩ ?_
  · have := maxL_le (x := 0) (xs := highs.map fun x => x.fdiv 2) (b := 500000000) fun y hy => by
      rcases List.mem_cons.mp hy with rfl | hy
      · decide
      · obtain ⟨x, hx, rfl⟩ := List.mem_map.mp hy
        have := hr x hx
        rw [fdiv_pos _ (by decide)]
        omega
    exact ⟨this.2, this.1⟩
  intro v6 h6
  refine (draw_ok H (by omega) (by omega)).bd ?_
  rintro ⟨v7, hd⟩ ⟨H, a0, a1⟩
  refine (draw_ok H (by decide) (by decide)).bd ?_
  rintro ⟨thin, hd⟩ ⟨H, b0, b1⟩
  simp only at a0 a1 ⊢
  refine (Ok.forD (fun ds (s : List Int × List Int) => Hand s.1 ∧ SatOk ds s.2) (Q := fun s => Hand s.1 ∧ SatOk highs s.2) ?_ ?_ ?_).bd ?_
  · exact ⟨H, F2.nil⟩
  · rintro ds x rs ⟨hd, xs⟩ e ⟨H, so⟩
    simp only at so ⊢
    have hx := hr x (by rw [e]; simp)
    have hl := so.len
    have hds : ds.length ≤ 12 := by
      have := congrArg List.length e
      simp at this
      omega
    refine (Ok.fd (Q := fun v => v = x / (1 + v7)) (by omega) rfl).bd ?_
    rintro _ rfl
    have d0 : 0 ≤ x / (1 + v7) := Int.ediv_nonneg hx.1 (by omega)
    have d1 : x / (1 + v7) ≤ x := by
      have := Int.ediv_le_self (1 + v7) hx.1
      exact this
    refine (draw_ok H (by omega) (by omega)).bd ?_
    rintro ⟨w, hd⟩ ⟨H, w0, w1⟩
    simp only at w0 w1 ⊢
    have m1 : (1 + v7) * w ≤ x := by
      have h1 : (1 + v7) * w ≤ (1 + v7) * (x / (1 + v7)) := Int.mul_le_mul_of_nonneg_left (by omega) (by omega)
      have h2 := Int.mul_ediv_self_le (x := x) (k := 1 + v7) (by omega)
      omega
    have m0 : 0 ≤ (1 + v7) * w := Int.mul_nonneg (by omega) (by omega)
    refine (Ok.mulL (Q := fun v => 0 ≤ v ∧ v ≤ x) (by omega) ⟨m0, m1⟩).bd ?_
    intro v32 h32
    refine (draw_ok H (by omega) (by omega)).bd ?_
    rintro ⟨u, hd⟩ ⟨H, u0, u1⟩
    refine (draw_ok H (by decide) (by decide)).bd ?_
    rintro ⟨t, hd⟩ ⟨H, t0, t1⟩
    simp only at u0 u1 t0 t1 ⊢
    refine (Ok.ix t0 (by exact t1)).bd ?_
    rintro y ⟨_, hy⟩
    have hy : 0 ≤ y ∧ y ≤ x := by
      simp only [List.mem_cons, List.not_mem_nil, or_false] at hy
      unfold minI at hy
      split at hy <;> omega
    refine (draw_ok H (by decide) (by decide)).bd ?_
    rintro ⟨u, hd⟩ ⟨H, _, _⟩
    refine Ok.bd (P := fun v => 0 ≤ v ∧ v ≤ x) (Ok.ite (fun _ => Ok.ret hy) (fun _ => Ok.ret ⟨Int.le_refl _, hx.1⟩)) ?_
    intro v hv
    refine (Ok.app (Q := fun l => l = xs ++ [v]) (by omega) rfl).bd ?_
    rintro _ rfl
    exact Ok.ret ⟨H, F2.snoc so hv⟩
  · exact fun s h => h
  · rintro ⟨hd, xs⟩ ⟨H, so⟩
    exact Ok.ret ⟨H, so⟩
/-! ### gauges and rods handed in -/
def nthS (cs : List PySem.Str) (i : Int) : PySem.Str := cs.getD i.toNat ""
theorem ix_nthS {cs : List PySem.Str} {i : Int} (h0 : 0 ≤ i) (h1 : i < cs.length) : ixL cs i = .ok (nthS cs i) := by
  have h2 : i.toNat < cs.length := by omega
  simp [ixL, atI, ixN, h0, h1, nthS, h2]
def rodsL (cs : List PySem.Str) (ps : List (Int × Int)) : List (PySem.Str × PySem.Str) := ps.map fun p => (nthS cs p.1, nthS cs p.2)
theorem handed_ok {cs : List PySem.Str} {hs : List Int} {ne : List (List Int)} {ps : List (Int × Int)} (M : MD cs hs ne ps) : t_law_handed cs hs ps = .ok (cs.zip hs, rodsL cs ps) := by
  have h1 := sz
  have h2 := M.pl
  have h3 := M.n12
  have h4 := M.cl
  refine Ok.eq ?_
  unfold t_law_handed
  refine (Ok.lcOe (g := fun p => (nthS cs p.1, nthS cs p.2)) (Q := fun l => l = rodsL cs ps) (by omega) ?_ rfl).bd ?_
  · intro p hp
    have := M.pr p hp
    unfold PP1 at this
    rw [ix_nthS (by omega) (by omega), ix_nthS (by omega) (by omega)]
    rfl
  · rintro _ rfl
    refine (Ok.lcM (Q := fun l => l = cs.zip hs) (by rw [List.length_zip]; omega) (by simp)).bd ?_
    rintro _ rfl
    exact Ok.ret rfl
end Law
namespace Law
open PySem PySem.Spec PyProof.Rows L2 G
/-! ### looks at any thing -/
def NoObj (d : D) : Prop := ∀ c fs, d ≠ .obj c fs
def whD : D → Bool
  | .int _ => true
  | _ => false
theorem is_whole_D {d : D} (h : NoObj d) : t_is_whole d = .ok (whD d) := by
  cases d <;> first | rfl | exact absurd rfl (h _ _)
def numD (m : Int) : D → Bool
  | .int i => decide (0 ≤ i) && decide (i ≤ m)
  | _ => false
theorem is_number_D {d : D} (h : NoObj d) (m : Int) : t_is_number d m = .ok (numD m d) := by
  unfold t_is_number
  rw [is_whole_D h]
  cases d with
  | int i =>
    simp only [whD, O.ok_bind, if_true, le_ii, opB, numD]
    by_cases h0 : 0 ≤ i
    · simp [h0]
    · simp [h0]
  | _ => rfl
theorem mem_ltrs (c : Nat) : c ∈ ltrs.cps.toList ↔ Sg1 c := by
  rw [ltrs_cps]
  simp only [List.mem_cons, List.not_mem_nil, or_false, Sg1]
  omega
theorem is_name_str {x : PySem.Str} (hx : x.length ≤ sizeLine) : t_is_name (.str x) = .ok (decide (Nm x)) := by
  have e0 : isK .str (.str x) = .ok true := rfl
  have e1 : G.opI (dLen [.str x]) = .ok (x.length : Int) := by simp only [dLen, hx, if_true, G.opI]
  unfold t_is_name
  rw [e0]
  simp only [O.ok_bind, Bool.not_true, Bool.false_eq_true, if_false, e1, decide_eq_true_eq]
  have hl := str_len x
  have e2 : (if (1 : Int) ≤ x.length then O.ok (decide ((x.length : Int) ≤ 6)) else .ok false) = .ok (decide (1 ≤ x.cps.toList.length ∧ x.cps.toList.length ≤ 6)) := by
    rw [hl]
    by_cases h1 : 1 ≤ x.cps.toList.length
    · rw [if_pos (by omega)]
      congr 1
      exact decide_eq_decide.mpr (by omega)
    · rw [if_neg (by omega)]
      congr 1
      exact (decide_eq_false (by omega)).symm
  rw [e2]
  simp only [O.ok_bind, Bool.not_eq_true', decide_eq_false_iff_not]
  by_cases h6 : 1 ≤ x.cps.toList.length ∧ x.cps.toList.length ≤ 6
  · rw [if_neg (by simpa using h6)]
    have e3 : itD (.str x) = .ok ((sgs x).map D.str) := by unfold itD; rw [it_s]; rfl
    rw [e3]
    simp only [O.ok_bind, O.bind_ok]
    refine Ok.eq ?_
    refine (Ok.lcOe (g := fun d => match d with | .str s => decide (s.cps.toList.all (fun c => decide (Sg1 c)) = true) | _ => false) (Q := fun l => l.all id = decide (Nm x)) (by rw [List.length_map, sgs, List.length_map, sz]; omega) ?_ ?_).bd ?_
    · intro d hd
      obtain ⟨s, hs, rfl⟩ := List.mem_map.mp hd
      obtain ⟨c, hc, rfl⟩ := List.mem_map.mp hs
      have e4 : dIn (.str (⟨#[c]⟩ : PySem.Str)) (.str ltrs) = some (.bl (decide (c ∈ ltrs.cps.toList))) := by simp [dIn, dOr2, dSg]
      show opB (dIn (.str (⟨#[c]⟩ : PySem.Str)) (.str ltrs)) = _
      rw [e4]
      show O.ok (decide (c ∈ ltrs.cps.toList)) = O.ok (decide (([c].all fun c => decide (Sg1 c)) = true))
      congr 1
      exact decide_eq_decide.mpr (by rw [mem_ltrs]; simp)
    · rw [Bool.eq_iff_iff, List.all_map, List.all_map, sgs, List.all_map, List.all_eq_true, decide_eq_true_iff]
      constructor
      · intro h
        refine ⟨fun z => ?_, h6.2, fun c hc => ?_⟩
        · rw [z] at h6; simp at h6
        · have := h c hc
          simpa using this
      · intro h c hc
        have := h.2.2 c hc
        simpa using this
    · intro l hl
      exact Ok.ret hl
  · rw [if_pos h6]
    congr 1
    refine (decide_eq_false fun h => h6 ⟨?_, h.2.1⟩).symm
    exact List.length_pos_iff.mpr h.1
theorem is_name_nm {x : PySem.Str} (h : Nm x) : t_is_name (.str x) = .ok true := by
  rw [is_name_str (Nat.le_trans (nm_len h) (by decide)), decide_eq_true h]
/-! ### moors made -/
abbrev eG : List (PySem.Str × Int) → D := eT (eP D.str D.int)
abbrev eRd : List (PySem.Str × PySem.Str) → D := eT (eP D.str D.str)
def mo (gs : List (PySem.Str × Int)) (rs : List (PySem.Str × PySem.Str)) : D := .obj 0 [eG gs, eRd rs]
structure GOk (gs : List (PySem.Str × Int)) : Prop where
  ln : gs.length ≤ 12
  nm : ∀ g ∈ gs, Nm g.1
  tp : ∀ g ∈ gs, 0 ≤ g.2 ∧ g.2 ≤ 1000000000
  up : (gs.map (·.1)).Pairwise sLt
abbrev rLt (a b : PySem.Str × PySem.Str) : Prop := lt (pP PyData.str PyData.str) a b = true
structure ROk (gs : List (PySem.Str × Int)) (rs : List (PySem.Str × PySem.Str)) : Prop where
  ln : rs.length ≤ 1000
  nm : ∀ r ∈ rs, r.1 ∈ gs.map (·.1) ∧ r.2 ∈ gs.map (·.1)
  lt : ∀ r ∈ rs, sLt r.1 r.2
  up : rs.Pairwise rLt
theorem is_gauge_ok {g : PySem.Str × Int} (h : Nm g.1) (h2 : 0 ≤ g.2 ∧ g.2 ≤ 1000000000) : t_is_gauge (eP D.str D.int g) = .ok true := by
  have e0 : isK .tuple (eP D.str D.int g) = .ok true := rfl
  have e1 : G.opI (dLen [eP D.str D.int g]) = .ok 2 := rfl
  have e2 : opD (dIx (eP D.str D.int g) (.int 0)) = .ok (.str g.1) := rfl
  have e3 : opD (dIx (eP D.str D.int g) (.int 1)) = .ok (.int g.2) := rfl
  unfold t_is_gauge
  have e4 : t_is_number (.int g.2) 1000000000 = .ok (numD 1000000000 (.int g.2)) := is_number_D (fun _ _ => by simp) _
  rw [e0, e1, e2, e3]
  simp only [O.ok_bind, if_true, is_name_nm h, e4, numD, decide_eq_true_eq]
  simp [h2.1, h2.2]
theorem nm_ne {x : PySem.Str} (h : Nm x) : sLt "" x := by
  unfold sLt lt
  rw [PySem.W.dataLt_str, decide_eq_true_iff]
  cases hx : x.cps.toList with
  | nil => exact absurd hx h.1
  | cons c l =>
    show ([] : List Nat) < c :: l
    exact List.nil_lt_cons _ _
theorem le_str (a b : PySem.Str) : dLe (.str a) (.str b) = some (.bl (!lt PyData.str b a)) := ety_str.le (by decide) a b
theorem enL_spec {α : Type} : ∀ (xs : List α) (f : Int × α → Bool), (∀ x ∈ xs, ∀ i, f (i, x) = true) → ∀ y ∈ enL xs, f y = true := by
  intro xs f h y hy
  unfold enL at hy
  rw [List.zipWith_eq_zipWith_take_min] at hy
  obtain ⟨i, hi, e⟩ := List.mem_iff_getElem.mp hy
  rw [List.getElem_zipWith] at e
  rw [← e]
  exact h _ (List.mem_of_mem_take (List.getElem_mem _)) _
/-- numbered, by what follows -/
def enF {α : Type} : Int → List α → List (Int × α)
  | _, [] => []
  | k, x :: xs => (k, x) :: enF (k + 1) xs
theorem enL_F {α : Type} (xs : List α) : enL xs = enF 0 xs := by
  have key : ∀ (xs : List α) (k : Nat), ((List.range' k xs.length).zipWith (fun (j : Nat) x => ((j : Int), x)) xs) = enF k xs := by
    intro xs
    induction xs with
    | nil => intro k; rfl
    | cons x xs ih =>
      intro k
      rw [List.length_cons, List.range'_succ, List.zipWith_cons_cons, ih (k + 1)]
      rfl
  unfold enL
  rw [List.range_eq_range']
  exact key xs 0
theorem odd_gauge_ok {gs : List (PySem.Str × Int)} (G : GOk gs) : t_odd_gauge (eG gs) = .ok none := by
  have e0 : dSq (eG gs) = some (gs.map (eP D.str D.int)) := rfl
  refine Ok.eq ?_
  unfold t_odd_gauge
  rw [e0]
  simp only [Option.map_some, ofO_some, O.ok_bind]
  refine Ok.bd (P := fun z => ∃ d, z = Sum.inr d) ?_ ?_
  · have key : ∀ (gs : List (PySem.Str × Int)) (k : Int) (last : PySem.Str), (∀ g ∈ gs, Nm g.1 ∧ 0 ≤ g.2 ∧ g.2 ≤ 1000000000) → (last :: gs.map (·.1)).Pairwise sLt →
        Ok (forR (ρ := (Option Int)) (fun (x18 : Int × D) (last19 : D) =>
          (t_is_gauge x18.2).bind fun v20 =>
          (if (!v20) = true then .ok true else ((opD (dIx x18.2 (D.int (0 : Int)))).bind fun v23 =>
          (opB (dLe v23 last19)).bind fun v24 =>
          O.ok v24)).bind fun v25 =>
          if v25 = true then
          (O.ok (Stp.rt (some x18.1)))
          else
          ((opD (dIx x18.2 (D.int (0 : Int)))).bind fun last26 =>
          O.ok (Stp.on last26))) (enF k (gs.map (eP D.str D.int))) (.str last)) (fun z => ∃ d, z = Sum.inr d) := by
      intro gs
      induction gs with
      | nil => exact fun k last _ _ => ⟨_, rfl, _, rfl⟩
      | cons g gs ih =>
        intro k last hg hp
        have hg0 := hg g (List.mem_cons_self ..)
        have hp1 := List.pairwise_cons.mp hp
        have hlt : sLt last g.1 := hp1.1 _ (by simp)
        rw [List.map_cons, enF, forR]
        simp only [is_gauge_ok hg0.1 hg0.2, O.ok_bind, Bool.not_true, Bool.false_eq_true, if_false]
        have e1 : opD (dIx (eP D.str D.int g) (.int 0)) = .ok (.str g.1) := rfl
        rw [e1]
        simp only [O.ok_bind, le_str, opB, hlt, Bool.not_true, Bool.false_eq_true, if_false]
        exact ih (k + 1) g.1 (fun x hx => hg x (List.mem_cons_of_mem _ hx)) hp1.2
    rw [enL_F]
    refine key gs 0 "" (fun g hg => ⟨G.nm g hg, G.tp g hg⟩) (List.pairwise_cons.mpr ⟨fun x hx => ?_, G.up⟩)
    obtain ⟨g, hg, rfl⟩ := List.mem_map.mp hx
    exact nm_ne (G.nm g hg)
  · rintro _ ⟨d, rfl⟩
    exact Ok.ret rfl
theorem is_rod_ok {r : PySem.Str × PySem.Str} {ns : List PySem.Str} (h1 : Nm r.1) (h2 : Nm r.2) (m1 : r.1 ∈ ns) (m2 : r.2 ∈ ns) (hl : sLt r.1 r.2) : t_is_rod (eP D.str D.str r) ns = .ok true := by
  have e0 : isK .tuple (eP D.str D.str r) = .ok true := rfl
  have e1 : G.opI (dLen [eP D.str D.str r]) = .ok 2 := rfl
  have e2 : itD (eP D.str D.str r) = .ok [.str r.1, .str r.2] := rfl
  have e3 : opD (dIx (eP D.str D.str r) (.int 0)) = .ok (.str r.1) := rfl
  have e4 : opD (dIx (eP D.str D.str r) (.int 1)) = .ok (.str r.2) := rfl
  have i1 : dIn (.str r.1) (eL D.str ns) = some (.bl true) := by
    have := ety_str.inL (by decide) r.1 ns
    rw [decide_eq_true m1] at this
    exact this
  have i2 : dIn (.str r.2) (eL D.str ns) = some (.bl true) := by
    have := ety_str.inL (by decide) r.2 ns
    rw [decide_eq_true m2] at this
    exact this
  have l1 : dLt (.str r.1) (.str r.2) = some (.bl true) := by
    have := ety_str.lt (by decide) r.1 r.2
    rw [this, hl]
  unfold t_is_rod
  rw [e0, e1, e2, e3, e4]
  simp only [O.ok_bind, Bool.not_true, Bool.false_eq_true, if_false, decide_eq_true_eq, Bool.not_eq_true', l1, opB]
  rw [if_neg (by simp)]
  refine Ok.eq ?_
  refine (Ok.lcOe (g := fun _ => true) (Q := fun l => l.all id = true) (by simp [sz]) ?_ rfl).bd ?_
  · intro x hx
    rcases List.mem_cons.mp hx with rfl | hx
    · rw [is_name_nm h1]
      simp only [O.ok_bind, if_true, i1]
    · rw [List.mem_singleton.mp hx, is_name_nm h2]
      simp only [O.ok_bind, if_true, i2]
  · intro l hl
    rw [hl]
    exact Ok.ret rfl
theorem odd_rod_ok {gs : List (PySem.Str × Int)} {rs : List (PySem.Str × PySem.Str)} (G : GOk gs) (R : ROk gs rs) : t_odd_rod (eRd rs) (gs.map (·.1)) = .ok none := by
  have e0 : dSq (eRd rs) = some (rs.map (eP D.str D.str)) := rfl
  have hnm : ∀ n ∈ gs.map (·.1), Nm n := fun n hn => by
    obtain ⟨g, hg, rfl⟩ := List.mem_map.mp hn
    exact G.nm g hg
  refine Ok.eq ?_
  unfold t_odd_rod
  rw [e0]
  simp only [Option.map_some, ofO_some, O.ok_bind]
  refine Ok.bd (P := fun z => ∃ d, z = Sum.inr d) ?_ ?_
  · have key : ∀ (rs : List (PySem.Str × PySem.Str)) (k : Int) (last : PySem.Str × PySem.Str), (∀ r ∈ rs, r.1 ∈ gs.map (·.1) ∧ r.2 ∈ gs.map (·.1) ∧ sLt r.1 r.2) → (last :: rs).Pairwise rLt →
        Ok (forR (ρ := (Option Int)) (fun (x9 : Int × D) (last10 : D) =>
          (t_is_rod x9.2 (gs.map (·.1))).bind fun v11 =>
          (if (!v11) = true then .ok true else ((opB (dLe x9.2 last10)).bind fun v13 =>
          O.ok v13)).bind fun v14 =>
          if v14 = true then
          (O.ok (Stp.rt (some x9.1)))
          else
          (O.ok (Stp.on x9.2))) (enF k (rs.map (eP D.str D.str))) (eP D.str D.str last)) (fun z => ∃ d, z = Sum.inr d) := by
      intro rs
      induction rs with
      | nil => exact fun k last _ _ => ⟨_, rfl, _, rfl⟩
      | cons r rs ih =>
        intro k last hr hp
        have hr0 := hr r (List.mem_cons_self ..)
        have hp1 := List.pairwise_cons.mp hp
        have hlt : rLt last r := hp1.1 _ (List.mem_cons_self ..)
        have le1 : dLe (eP D.str D.str r) (eP D.str D.str last) = some (.bl false) := by
          rw [(ety_p ety_str ety_str).le (by decide) r last, hlt]
          rfl
        rw [List.map_cons, enF, forR]
        simp only [is_rod_ok (hnm _ hr0.1) (hnm _ hr0.2.1) hr0.1 hr0.2.1 hr0.2.2, O.ok_bind, Bool.not_true, Bool.false_eq_true, if_false, le1, opB]
        exact ih (k + 1) r (fun x hx => hr x (List.mem_cons_of_mem _ hx)) hp1.2
    rw [enL_F]
    refine key rs 0 ("", "") (fun r hr => ⟨(R.nm r hr).1, (R.nm r hr).2, R.lt r hr⟩) (List.pairwise_cons.mpr ⟨fun x hx => ?_, R.up⟩)
    unfold rLt
    have hx1 := hnm _ (R.nm x hx).1
    rw [lt_pP ety_str ety_str, if_neg]
    · exact nm_ne hx1
    · intro z
      exact hx1.1 (by rw [← show ("" : PySem.Str) = x.1 from z]; rfl)
  · rintro _ ⟨d, rfl⟩
    exact Ok.ret rfl
theorem cstG : Cst eG (cT (cP cS cI)) := cst_tup (cst_p cst_str cst_int)
theorem cstR : Cst eRd (cT (cP cS cS)) := cst_tup (cst_p cst_str cst_str)
theorem moor_ok {gs : List (PySem.Str × Int)} {rs : List (PySem.Str × PySem.Str)} (Gk : GOk gs) (R : ROk gs rs) : t_Moor_init (.obj 0 []) (eG gs) (eRd rs) = .ok (mo gs rs) := by
  have e0 : isK .tuple (eG gs) = .ok true := rfl
  have e1 : G.opI (dLen [eG gs]) = .ok (gs.length : Int) := by rw [show dLen [eG gs] = _ from len_t gs]; rfl
  have e2 : isK .tuple (eRd rs) = .ok true := rfl
  have hg := Gk.ln
  unfold t_Moor_init
  rw [e0, e1, e2]
  simp only [O.ok_bind, Bool.not_true, Bool.false_eq_true, if_false, decide_eq_true_eq]
  rw [if_neg (by omega), odd_gauge_ok Gk]
  simp only [O.ok_bind, Option.isSome_none, Bool.false_eq_true, if_false]
  rw [show cT (cP cS cI) (eG gs) = .ok gs from cstG.cp gs]
  simp only [O.ok_bind]
  unfold lcM
  rw [grd_t (by rw [sz]; omega)]
  simp only [O.ok_bind]
  rw [odd_rod_ok Gk R]
  simp only [O.ok_bind, Option.isSome_none, Bool.false_eq_true, if_false]
  rw [show cT (cP cS cS) (eRd rs) = .ok rs from cstR.cp rs]
  rfl
theorem mo_gs (gs : List (PySem.Str × Int)) (rs : List (PySem.Str × PySem.Str)) : atC 0 0 (cT (cP cS cI)) (mo gs rs) = .ok gs := by
  show (O.ok (eG gs)).bind _ = _
  exact cstG.cp gs
theorem mo_rs (gs : List (PySem.Str × Int)) (rs : List (PySem.Str × PySem.Str)) : atC 1 0 (cT (cP cS cS)) (mo gs rs) = .ok rs := by
  show (O.ok (eRd rs)).bind _ = _
  exact cstR.cp rs
/-! ### gauges and rods of a drawn moor -/
theorem md_g {cs : List PySem.Str} {hs : List Int} {ne : List (List Int)} {ps : List (Int × Int)} (M : MD cs hs ne ps) : GOk (cs.zip hs) ∧ (cs.zip hs).map (·.1) = cs ∧ (cs.zip hs).map (·.2) = hs := by
  have h1 := M.cl
  have h2 := M.n12
  have e1 : (cs.zip hs).map (·.1) = cs := List.map_fst_zip (by omega)
  have e2 : (cs.zip hs).map (·.2) = hs := List.map_snd_zip (by omega)
  refine ⟨⟨by rw [List.length_zip]; omega, fun g hg => M.nm _ (List.of_mem_zip hg).1, fun g hg => M.hr _ (List.of_mem_zip hg).2, by rw [e1]; exact M.cs⟩, e1, e2⟩
theorem nth_lt {cs : List PySem.Str} (h : cs.Pairwise sLt) {i j : Int} (h0 : 0 ≤ i) (h1 : i < j) (h2 : j < cs.length) : sLt (nthS cs i) (nthS cs j) := by
  have a1 : i.toNat < cs.length := by omega
  have a2 : j.toNat < cs.length := by omega
  unfold nthS
  rw [List.getD_eq_getElem?_getD, List.getD_eq_getElem?_getD, List.getElem?_eq_getElem a1, List.getElem?_eq_getElem a2]
  exact List.pairwise_iff_getElem.mp h _ _ a1 a2 (by omega)
theorem nth_mem {cs : List PySem.Str} {i : Int} (h0 : 0 ≤ i) (h2 : i < cs.length) : nthS cs i ∈ cs := by
  have a1 : i.toNat < cs.length := by omega
  unfold nthS
  rw [List.getD_eq_getElem?_getD, List.getElem?_eq_getElem a1]
  exact List.getElem_mem _
theorem md_r {cs : List PySem.Str} {hs : List Int} {ne : List (List Int)} {ps : List (Int × Int)} (M : MD cs hs ne ps) : ROk (cs.zip hs) (rodsL cs ps) := by
  have h1 := M.cl
  have e1 := (md_g M).2.1
  have hp : ∀ p ∈ ps, 0 ≤ p.1 ∧ p.1 < p.2 ∧ p.2 < cs.length := fun p hp => by
    have := M.pr p hp
    unfold PP1 at this
    omega
  refine ⟨by unfold rodsL; rw [List.length_map]; exact M.pl, fun r hr => ?_, fun r hr => ?_, ?_⟩
  · obtain ⟨p, hp', rfl⟩ := List.mem_map.mp hr
    have := hp p hp'
    rw [e1]
    exact ⟨nth_mem this.1 (by omega), nth_mem (by omega) this.2.2⟩
  · obtain ⟨p, hp', rfl⟩ := List.mem_map.mp hr
    have := hp p hp'
    exact nth_lt M.cs this.1 this.2.1 this.2.2
  · unfold rodsL
    rw [List.pairwise_map]
    refine List.Pairwise.imp_of_mem (fun {a b} ha hb hab => ?_) M.pp
    have h1 := hp a ha
    have h2 := hp b hb
    unfold pLt at hab
    rw [lt_pP ety_int ety_int] at hab
    unfold rLt
    rw [lt_pP ety_str ety_str]
    split at hab
    · rename_i e
      rw [if_pos (by rw [e])]
      rw [G.lt_int, decide_eq_true_iff] at hab
      exact nth_lt M.cs (by omega) hab (by omega)
    · rename_i e
      rw [G.lt_int, decide_eq_true_iff] at hab
      have := nth_lt M.cs h1.1 hab (by omega)
      rw [if_neg]
      · exact this
      · intro z
        have z : nthS cs a.1 = nthS cs b.1 := z
        rw [z] at this
        unfold sLt at this
        rw [lt_irr] at this
        cases this
/-! ### is_stand, both looks -/
def satD (tops : List Int) : D → Bool
  | .tup xs => decide (xs.length = tops.length) && (xs.zip tops).all fun p => numD p.2 p.1
  | _ => false
def NoObj1 (d : D) : Prop := NoObj d ∧ ∀ xs, d = .tup xs → ∀ x ∈ xs, NoObj x
theorem checked_ok (gs : List (PySem.Str × Int)) (rs : List (PySem.Str × PySem.Str)) : t_checked_moor (mo gs rs) = .ok (mo gs rs) := rfl
theorem is_stand_D {gs : List (PySem.Str × Int)} {rs : List (PySem.Str × PySem.Str)} (hl : gs.length ≤ 1000) {d : D} (h : NoObj1 d) : t_is_stand (mo gs rs) d = .ok (satD (gs.map (·.2)) d) := by
  have hs := sz
  unfold t_is_stand
  rw [checked_ok, mo_gs]
  simp only [O.ok_bind]
  cases d with
  | tup xs =>
    have e0 : isK .tuple (.tup xs) = .ok true := rfl
    have e1 : G.opI (dLen [.tup xs]) = .ok (xs.length : Int) := rfl
    have e2 : dSq (.tup xs) = some xs := rfl
    rw [e0, e1, e2]
    simp only [O.ok_bind, Bool.not_true, Bool.false_eq_true, if_false, Bool.not_eq_true', Bool.true_eq_false, decide_eq_false_iff_not, satD, List.length_map]
    by_cases he : xs.length = gs.length
    · rw [if_neg (by omega), decide_eq_true he, Bool.true_and]
      show (O.ok (xs.zip gs)).bind _ = _
      simp only [O.ok_bind]
      refine Ok.eq ?_
      refine (Ok.lcOe (g := fun p => numD p.2.2 p.1) (Q := fun l => l.all id = (xs.zip (gs.map (·.2))).all fun p => numD p.2 p.1) (by rw [List.length_zip]; omega) ?_ ?_).bd ?_
      · intro p hp
        rw [is_number_D (h.2 xs rfl p.1 (List.of_mem_zip hp).1)]
        rfl
      · rw [List.all_map, List.zip_map_right, List.all_map]
        rfl
      · intro l hl
        exact Ok.ret hl
    · rw [if_pos (by omega), decide_eq_false he, Bool.false_and]
  | obj c fs => exact absurd rfl (h.1 _ _)
  | _ => rfl
theorem is_sat_D {highs : List Int} {d : D} (h : NoObj1 d) : t_law_is_sat highs d = .ok (satD highs d) := by
  unfold t_law_is_sat
  cases d with
  | tup xs =>
    have e0 : isK .tuple (.tup xs) = .ok true := rfl
    have e1 : G.opI (dLen [.tup xs]) = .ok (xs.length : Int) := rfl
    have e2 : dSq (.tup xs) = some xs := rfl
    rw [e0, e1, e2]
    simp only [O.ok_bind, Bool.not_true, Bool.false_eq_true, if_false, Bool.not_eq_true', Bool.true_eq_false, decide_eq_false_iff_not, satD]
    by_cases he : xs.length = highs.length
    · rw [if_neg (by omega), decide_eq_true he, Bool.true_and]
      show (O.ok (xs.zip highs)).bind _ = _
      simp only [O.ok_bind]
      have hx : ∀ p ∈ xs.zip highs, NoObj p.1 := fun p hp => h.2 xs rfl p.1 (List.of_mem_zip hp).1
      generalize xs.zip highs = l at hx
      refine Ok.eq ?_
      refine Ok.bd (P := fun z => z = if (l.all fun p => numD p.2 p.1) = true then Sum.inr () else Sum.inl false) ?_ ?_
      · induction l with
        | nil => exact ⟨_, rfl, rfl⟩
        | cons p l ih =>
          have hp := hx p (List.mem_cons_self ..)
          have ih := ih fun q hq => hx q (List.mem_cons_of_mem _ hq)
          obtain ⟨d, m⟩ := p
          rw [forR]
          simp only [List.all_cons] at ih ⊢
          cases d with
          | int i =>
            have k1 : isK .int (.int i) = .ok true := rfl
            have k2 : isK .bool (.int i) = .ok false := rfl
            simp only [k1, k2, O.ok_bind, Bool.not_true, Bool.false_eq_true, if_false, le_ii, opB, decide_eq_true_eq, numD]
            by_cases h0 : 0 ≤ i
            · by_cases h1 : i ≤ m
              · simp only [h0, h1, if_true, decide_true, O.ok_bind, Bool.not_true, Bool.false_eq_true, if_false, Bool.and_self, Bool.true_and]
                exact ih
              · simp only [h0, h1, if_true, decide_false, decide_true, O.ok_bind, Bool.not_false, if_true, Bool.and_false, Bool.false_and, Bool.false_eq_true, if_false]
                exact ⟨_, rfl, rfl⟩
            · simp only [h0, if_false, O.ok_bind, Bool.not_false, if_true, decide_false, Bool.false_and, Bool.false_eq_true]
              exact ⟨_, rfl, rfl⟩
          | bl b =>
            have k1 : isK .int (.bl b) = .ok true := rfl
            have k2 : isK .bool (.bl b) = .ok true := rfl
            simp only [k1, k2, O.ok_bind, Bool.not_true, Bool.false_eq_true, if_false, if_true, numD, Bool.false_and]
            exact ⟨_, rfl, rfl⟩
          | obj c fs => exact absurd rfl (hp _ _)
          | _ => exact ⟨_, rfl, rfl⟩
      · rintro _ rfl
        cases l.all fun p => numD p.2 p.1 with
        | true => exact Ok.ret rfl
        | false => exact Ok.ret rfl
    · rw [if_pos (by omega), decide_eq_false he, Bool.false_and]
  | obj c fs => exact absurd rfl (h.1 _ _)
  | _ => rfl
end Law
namespace Law
open PySem PySem.Spec PyProof.Rows L2 G
/-! ### odd things -/
def Odd (d : D) : Prop := NoObj1 d ∧ ∃ s, reprO d = .ok s
theorem told_ok {gs : List (PySem.Str × Int)} {rs : List (PySem.Str × PySem.Str)} (hl : gs.length ≤ 1000) {d : D} (h : Odd d) : t_law_told_right (mo gs rs) (gs.map (·.2)) d = .ok true := by
  obtain ⟨h1, s, e⟩ := h
  have hb : ∀ b : Bool, ∃ s, reprO (eL D.bl [b, b]) = .ok s := fun b => (rpr_lst (xs := [.bl b, .bl b]) (n := 5) (k := 0) fun x hx => by
    rcases List.mem_cons.mp hx with rfl | hx
    · exact rpr_bl
    · rw [List.mem_singleton.mp hx]; exact rpr_bl).ok (by simp [sz]) (by decide)
  obtain ⟨s2, e2⟩ := hb (satD (gs.map (·.2)) d)
  unfold t_law_told_right
  rw [e, is_sat_D h1, is_stand_D hl h1]
  simp only [O.ok_bind, e2, decide_true, if_true]
def Smp (x : D) : Prop := NoObj x ∧ ∃ b, Rpr x 6000 4 b
theorem smp_int {i : Int} (h0 : -(10 ^ 40) < i) (h : i < 10 ^ 40) : Smp (.int i) := ⟨fun _ _ => by simp, true, (rpr_int' h0 h).mono (by decide) (by decide)⟩
theorem odd_put {as bs : List Int} {x : D} (ha : ∀ i ∈ as, 0 ≤ i ∧ i ≤ 1000000000) (hb : ∀ i ∈ bs, 0 ≤ i ∧ i ≤ 1000000000) (la : as.length ≤ 30) (lb : bs.length ≤ 30) (hx : Smp x) : Odd (.tup (as.map D.int ++ [x] ++ bs.map D.int)) := by
  obtain ⟨h1, b, h2⟩ := hx
  have hn : ∀ y ∈ as.map D.int ++ [x] ++ bs.map D.int, NoObj y ∧ Rpr y 6000 4 b := fun y hy => by
    rcases List.mem_append.mp hy with hy | hy
    · rcases List.mem_append.mp hy with hy | hy
      · obtain ⟨i, hi, rfl⟩ := List.mem_map.mp hy
        have := ha i hi
        exact ⟨fun _ _ => by simp, (rpr_int' (by omega) (by omega)).mono (by decide) (by decide)⟩
      · rw [List.mem_singleton.mp hy]; exact ⟨h1, h2⟩
    · obtain ⟨i, hi, rfl⟩ := List.mem_map.mp hy
      have := hb i hi
      exact ⟨fun _ _ => by simp, (rpr_int' (by omega) (by omega)).mono (by decide) (by decide)⟩
  refine ⟨⟨fun _ _ => by simp, fun xs e y hy => ?_⟩, (rpr_tup fun y hy => (hn y hy).2).ok ?_ (by decide)⟩
  · cases e
    exact (hn y hy).1
  · simp only [List.length_append, List.length_map, List.length_cons, List.length_nil, sz]
    omega
theorem odd_ints {as : List Int} (ha : ∀ i ∈ as, 0 ≤ i ∧ i ≤ 1000000000) (la : as.length ≤ 60) : Odd (eT D.int as) ∧ Odd (eL D.int as) := by
  have hn : ∀ b, ∀ y ∈ as.map D.int, NoObj y ∧ Rpr y 1921 0 b := fun b y hy => by
    obtain ⟨i, hi, rfl⟩ := List.mem_map.mp hy
    have := ha i hi
    exact ⟨fun _ _ => by simp, rpr_int' (by omega) (by omega)⟩
  refine ⟨⟨⟨fun _ _ => by simp [eT], fun xs e y hy => ?_⟩, (rpr_tup fun y hy => (hn true y hy).2).ok ?_ (by decide)⟩, ⟨⟨fun _ _ => by simp [eL], fun xs e => ?_⟩, (rpr_lst fun y hy => (hn false y hy).2).ok ?_ (by decide)⟩⟩
  · cases e
    exact (hn true y hy).1
  · simp only [List.length_map, sz]; omega
  · cases e
  · simp only [List.length_map, sz]; omega
theorem cut_sub {α : Type} (xs : List α) (lo hi : Option Int) : (cutL xs lo hi).Sublist xs := (List.take_sublist _ _).trans (List.drop_sublist _ _)
theorem enF_mem {α : Type} : ∀ {xs : List α} {k : Int} {y : Int × α}, y ∈ enF k xs → k ≤ y.1 ∧ y.1 < k + xs.length ∧ y.2 ∈ xs
  | [], k, y, h => by cases h
  | x :: xs, k, y, h => by
    rw [enF] at h
    rcases List.mem_cons.mp h with rfl | h
    · simp
      omega
    · have := enF_mem h
      simp only [List.length_cons]
      refine ⟨by omega, by omega, List.mem_cons_of_mem _ this.2.2⟩
theorem enF_len {α : Type} : ∀ (xs : List α) (k : Int), (enF k xs).length = xs.length
  | [], _ => rfl
  | x :: xs, k => by rw [enF, List.length_cons, enF_len xs, List.length_cons]
theorem sat_rg {highs sat : List Int} (h : SatOk highs sat) (hr : ∀ h ∈ highs, 0 ≤ h ∧ h ≤ 1000000000) : ∀ s ∈ sat, 0 ≤ s ∧ s ≤ 1000000000 := fun s hs => by
  obtain ⟨x, hx, r⟩ := F2.mem h hs
  have := hr x hx
  omega
theorem near_sats_ok {highs sat : List Int} (h : SatOk highs sat) (n12 : highs.length ≤ 12) (hr : ∀ h ∈ highs, 0 ≤ h ∧ h ≤ 1000000000) : Ok (t_law_near_sats highs sat) fun l => l.length ≤ 1000 ∧ ∀ d ∈ l, Odd d := by
  have hs := sz
  have hl := h.len
  have sr := sat_rg h hr
  unfold t_law_near_sats
  refine (Ok.cat (Q := fun l => l = sat ++ [0]) (by simp; omega) rfl).bd ?_
  rintro _ rfl
  refine (Ok.cat (Q := fun l => l = sat ++ sat) (by omega) rfl).bd ?_
  rintro _ rfl
  rw [O.bind_ok]
  have o1 := odd_ints sr (by omega)
  have o2 := odd_ints (as := sat.reverse) (fun i hi => sr i (List.mem_reverse.mp hi)) (by rw [List.length_reverse]; omega)
  have o3 := odd_ints (as := sat ++ [0]) (fun i hi => by
    rcases List.mem_append.mp hi with hi | hi
    · exact sr i hi
    · rw [List.mem_singleton.mp hi]; decide) (by simp; omega)
  have oc : ∀ lo hi, Odd (eT D.int (cutL sat lo hi)) := fun lo hi => (odd_ints (as := cutL sat lo hi) (fun i hi' => sr i ((cut_sub _ _ _).subset hi')) (by have := (cut_sub sat lo hi).length_le; omega)).1
  have o4 := odd_ints (as := sat ++ sat) (fun i hi => by
    rcases List.mem_append.mp hi with hi | hi
    · exact sr i hi
    · exact sr i hi) (by simp; omega)
  have o5 : Odd (eT (eT D.int) [sat]) := by
    refine ⟨⟨fun _ _ => by simp [eT], fun xs e y hy => ?_⟩, (rpr_tup (n := 12 * 1923 + 3) (k := 2) (b := true) fun y hy => ?_).ok (by simp [sz]) (by decide)⟩
    · cases e
      rw [List.mem_singleton.mp hy]
      exact fun _ _ => by simp [eT]
    · rw [List.mem_singleton.mp hy]
      refine (rpr_tup (n := 1921) (k := 0) fun z hz => ?_).mono (by rw [List.length_map]; omega) (by decide)
      obtain ⟨i, hi, rfl⟩ := List.mem_map.mp hz
      have := sr i hi
      exact rpr_int' (by omega) (by omega)
  have o6 := odd_ints hr (by omega)
  refine Ok.forD (fun ds (l : List D) => l.length ≤ 9 + 15 * ds.length ∧ ∀ d ∈ l, Odd d) ?_ ?_ ?_
  · refine ⟨by simp, ?_⟩
    simp only [List.forall_mem_cons]
    exact ⟨o1.1, o2.1, o1.2, o3.1, oc _ _, oc _ _, o4.1, o5, o6.1, by simp⟩
  · rintro ds ⟨k, high⟩ rs l e ⟨h1, h2⟩
    rw [enL_F] at e
    have hm : (k, high) ∈ enF 0 highs := by rw [e]; simp
    obtain ⟨k0, k1, kh⟩ := enF_mem hm
    have hds : ds.length ≤ 12 := by
      have := congrArg List.length e
      rw [enF_len] at this
      simp at this
      omega
    have hh := hr high kh
    simp only at k0 k1
    refine (Ok.ix k0 (by omega)).bd fun v16 _ => ?_
    refine (Ok.lcOe (g := fun x => .tup ((cutL sat none (some k)).map D.int ++ [x] ++ (cutL sat (some (k + 1)) none).map D.int)) (Q := fun l => l.length ≤ 15 ∧ ∀ d ∈ l, Odd d) (by simp [sz]) ?_ ?_).bd ?_
    · intro x _
      have c1 := (cut_sub sat none (some k)).length_le
      have c2 := (cut_sub sat (some (k + 1)) none).length_le
      have e1 : dAdd (eT D.int (cutL sat none (some k))) (eT eD [x]) = some (.tup ((cutL sat none (some k)).map D.int ++ [x])) := by
        simp only [eT, dAdd, List.length_map, List.length_cons, List.length_nil]
        rw [if_pos (by omega)]
        rfl
      have e2 : dAdd (.tup ((cutL sat none (some k)).map D.int ++ [x])) (eT D.int (cutL sat (some (k + 1)) none)) = some (.tup ((cutL sat none (some k)).map D.int ++ [x] ++ (cutL sat (some (k + 1)) none).map D.int)) := by
        simp only [eT, dAdd, List.length_map, List.length_cons, List.length_nil, List.length_append]
        rw [if_pos (by omega)]
      rw [e1]
      simp only [opD, O.ok_bind]
      rw [e2]
      rfl
    · refine ⟨by simp, ?_⟩
      have c1 := (cut_sub sat none (some k)).length_le
      have c2 := (cut_sub sat (some (k + 1)) none).length_le
      have hput : ∀ x, Smp x → Odd (.tup ((cutL sat none (some k)).map D.int ++ [x] ++ (cutL sat (some (k + 1)) none).map D.int)) := fun x hx => odd_put (fun i hi => sr i ((cut_sub _ _ _).subset hi)) (fun i hi => sr i ((cut_sub _ _ _).subset hi)) (by omega) (by omega) hx
      have r0 : ∀ y ∈ [D.int 0], Rpr y 1921 0 false := fun y hy => by rw [List.mem_singleton.mp hy]; exact rpr_int' (by decide) (by decide)
      have rn : ∀ y ∈ [eL eD []], Rpr y 3 2 false := fun y hy => by
        rw [List.mem_singleton.mp hy]
        exact rpr_lst (xs := []) (n := 0) (k := 0) (by simp)
      simp only [List.map_cons, List.map_nil, List.forall_mem_cons]
      refine ⟨hput _ (smp_int (by decide) (by decide)), hput _ (smp_int (by omega) (by omega)), hput _ (smp_int (by omega) (by omega)), hput _ (smp_int (by decide) (by decide)), hput _ ⟨fun _ _ => by simp, true, rpr_bl.mono (by decide) (by decide)⟩, hput _ ⟨fun _ _ => by simp, true, rpr_bl.mono (by decide) (by decide)⟩,
        hput _ ⟨fun _ _ => by simp [eU], true, rpr_non.mono (by decide) (by decide)⟩, hput _ ⟨fun _ _ => by simp, true, (rpr_str (by decide)).mono (by decide) (by decide)⟩, hput _ ⟨fun _ _ => by simp, true, (rpr_str (by decide)).mono (by decide) (by decide)⟩,
        hput _ ⟨fun _ _ => by simp [eL], false, (rpr_lst r0).mono (by decide) (by decide)⟩, hput _ ⟨fun _ _ => by simp [eT], false, (rpr_tup r0).mono (by decide) (by decide)⟩, hput _ ⟨fun _ _ => by simp, true, rpr_dct.mono (by decide) (by decide)⟩,
        hput _ ⟨fun _ _ => by simp [eT], false, (rpr_tup rn).mono (by decide) (by decide)⟩, hput _ (smp_int (by decide) (by decide)), hput _ ⟨fun _ _ => by simp, true, rpr_bl.mono (by decide) (by decide)⟩, by simp⟩
    · rintro l2 ⟨l15, ho⟩
      rw [O.bind_ok]
      refine Ok.ext (by omega) ⟨by simp; omega, fun d hd => ?_⟩
      rcases List.mem_append.mp hd with hd | hd
      · exact h2 d hd
      · exact ho d hd
  · rintro l ⟨h1, h2⟩
    rw [enL_F, enF_len] at h1
    exact ⟨by omega, h2⟩
theorem no_moor_ok {d : D} (h : NoObj d) (sat : List Int) : t_law_no_moor d sat = .ok true := by
  have e : t_checked_moor d = .er ⟨1, []⟩ := by
    have e1 : isC 0 d = .ok false := by cases d <;> first | rfl | exact absurd rfl (h _ _)
    unfold t_checked_moor
    rw [e1]
    rfl
  unfold t_law_no_moor t_is_stand
  rw [e]
  rfl
theorem catS_ok {x y : PySem.Str} {n : Nat} (h : x.length + y.length ≤ n) (hn : n ≤ 16777216) : Ok (catS x y) fun s => s.length ≤ n := by
  unfold catS
  have := strLen_append x y
  rw [if_pos (by rw [sz]; omega)]
  exact ⟨_, rfl, by omega⟩
theorem fmS_ok {x : PySem.Str} {n : Nat} (h : x.length ≤ n) (hn : n ≤ 16777216) : Ok (fmS x) fun s => s.length ≤ n := Ok.grd (by rw [sz]; omega) h
theorem fmI_ok {i : Int} (h0 : -(10 ^ 40) < i) (h : i < 10 ^ 40) : Ok (opS (dFm (.int i))) fun s => s.length ≤ 1921 := by
  have hl : i.natAbs.log2 < 1920 := by
    have h1 : i.natAbs < 2 ^ 140 := by omega
    by_cases z : i.natAbs = 0
    · rw [z]; decide
    · have := (Nat.log2_lt z).mpr h1
      omega
  refine ⟨_, ?_, PyProof.Rows.int_text_len_1921 hl⟩
  simp only [dFm, hl, if_true, opS]
theorem sum_len {α : Type} {f : α → Nat} {n : Nat} : ∀ {xs : List α}, (∀ x ∈ xs, f x ≤ n) → (xs.map f).sum ≤ xs.length * n
  | [], _ => by simp
  | x :: xs, h => by
    have h1 := h x (List.mem_cons_self ..)
    have h2 := sum_len (xs := xs) fun y hy => h y (List.mem_cons_of_mem _ hy)
    rw [List.map_cons, List.sum_cons, List.length_cons, Nat.add_mul]
    omega
theorem moor_str_ok {gs : List (PySem.Str × Int)} {rs : List (PySem.Str × PySem.Str)} (Gk : GOk gs) (R : ROk gs rs) : Ok (t_Moor_str (mo gs rs)) fun _ => True := by
  have hs := sz
  have hg := Gk.ln
  have hr := R.ln
  have hnm : ∀ n ∈ gs.map (·.1), n.length ≤ 6 := fun n hn => by
    obtain ⟨g, hg, rfl⟩ := List.mem_map.mp hn
    exact nm_len (Gk.nm g hg)
  have l1 : ("gauge " : PySem.Str).length = 6 := rfl
  have l2 : (" " : PySem.Str).length = 1 := rfl
  have l3 : ("rod " : PySem.Str).length = 4 := rfl
  have l0 : Str.empty.length = 0 := rfl
  unfold t_Moor_str
  rw [mo_gs, mo_rs]
  simp only [O.ok_bind]
  refine (Ok.lcO (fun _ (s : PySem.Str) => s.length ≤ 3000) (by omega) ?_).bd ?_
  · intro g hg
    have h1 := nm_len (Gk.nm g hg)
    have h2 := Gk.tp g hg
    refine (catS_ok (n := 6) (by omega) (by decide)).bd fun a ha => ?_
    refine (fmS_ok (n := 6) h1 (by decide)).bd fun b hb => ?_
    refine (catS_ok (n := 12) (by omega) (by decide)).bd fun c hc => ?_
    refine (catS_ok (n := 13) (by omega) (by decide)).bd fun d hd => ?_
    refine (fmI_ok (by omega) (by omega)).bd fun e he => ?_
    refine (catS_ok (n := 3000) (by omega) (by decide)).bd fun f hf => ?_
    exact Ok.ret hf
  intro v16 f16
  refine (Ok.lcO (fun _ (s : PySem.Str) => s.length ≤ 3000) (by omega) ?_).bd ?_
  · intro r hr
    have h1 := hnm _ (R.nm r hr).1
    have h2 := hnm _ (R.nm r hr).2
    refine (catS_ok (n := 6) (by omega) (by decide)).bd fun a ha => ?_
    refine (fmS_ok (n := 6) h1 (by decide)).bd fun b hb => ?_
    refine (catS_ok (n := 12) (by omega) (by decide)).bd fun c hc => ?_
    refine (catS_ok (n := 13) (by omega) (by decide)).bd fun d hd => ?_
    refine (fmS_ok (n := 6) h2 (by decide)).bd fun e he => ?_
    refine (catS_ok (n := 3000) (by omega) (by decide)).bd fun f hf => ?_
    exact Ok.ret hf
  intro v31 f31
  have n1 := f16.len
  have n2 := f31.len
  refine (Ok.cat (Q := fun l => l = v16 ++ v31) (by omega) rfl).bd ?_
  rintro _ rfl
  rw [O.bind_ok]
  unfold joinO
  refine Ok.grd ?_ trivial
  have hsum := sum_len (f := (·.length)) (n := 3000) (xs := v16 ++ v31) fun x hx => by
    rcases List.mem_append.mp hx with hx | hx
    · obtain ⟨_, _, h⟩ := F2.mem f16 hx
      exact h
    · obtain ⟨_, _, h⟩ := F2.mem f31 hx
      exact h
  have l4 : ("\n" : PySem.Str).length = 1 := rfl
  rw [List.length_append] at hsum ⊢
  rw [l4]
  omega
theorem one_ok {h : List Int} (H : Hand h) {cs : List PySem.Str} {hs : List Int} {ne : List (List Int)} {ps : List (Int × Int)} (M : MD cs hs ne ps) : Ok (t_law_one_right h (cs, hs, ne, ps)) fun p => p.1 = true ∧ Hand p.2 := by
  have hz := sz
  obtain ⟨Gk, e1, e2⟩ := md_g M
  have R := md_r M
  have n12 := M.n12
  have hcl := M.cl
  unfold t_law_one_right
  simp only
  rw [handed_ok M]
  simp only [O.ok_bind]
  rw [moor_ok Gk R]
  simp only [O.ok_bind]
  refine (sat_ok H n12 M.hr).bd ?_
  rintro ⟨sat, hd⟩ ⟨H, so⟩
  simp only at so ⊢
  refine (near_sats_ok so n12 M.hr).bd ?_
  rintro l ⟨hl, ho⟩
  have sn : ∀ c ∈ cs, ∀ b, Rpr (.str c) 62 0 b := fun c hc b => by
    have h1 := M.nm c hc
    have h2 := nm_len h1
    refine (rpr_str fun x hx => ?_).mono (by omega) (by decide)
    have := h1.2.2 x hx
    unfold Sg1 at this
    omega
  have og : Odd (eG (cs.zip hs)) := by
    refine ⟨⟨fun _ _ => by simp [eT], fun xs e y hy => ?_⟩, (rpr_tup (n := 2 * 1923 + 3) (k := 2) (b := true) fun y hy => ?_).ok ?_ (by decide)⟩
    · cases e
      obtain ⟨g, _, rfl⟩ := List.mem_map.mp hy
      exact fun _ _ => by simp [eP]
    · obtain ⟨g, hg, rfl⟩ := List.mem_map.mp hy
      have hz := List.of_mem_zip hg
      have := M.hr _ hz.2
      refine rpr_tup (xs := [.str g.1, .int g.2]) (n := 1921) (k := 0) fun z hz' => ?_
      rcases List.mem_cons.mp hz' with rfl | hz'
      · exact (sn _ hz.1 true).mono (by decide) (by decide)
      · rw [List.mem_singleton.mp hz']
        exact rpr_int' (by omega) (by omega)
    · rw [List.length_map, List.length_zip]
      omega
  have oc : Odd (eL D.str cs) := by
    refine ⟨⟨fun _ _ => by simp [eL], fun xs e => by cases e⟩, (rpr_lst (n := 62) (k := 0) fun y hy => ?_).ok ?_ (by decide)⟩
    · obtain ⟨c, hc, rfl⟩ := List.mem_map.mp hy
      exact sn c hc false
    · rw [List.length_map]
      omega
  have on : ∀ {d : D} {n k : Nat} {b : Bool}, NoObj1 d → Rpr d n k b → n ≤ 16777216 → k ≤ 60 → Odd d := fun h1 h2 h3 h4 => ⟨h1, h2.ok h3 h4⟩
  have nb : ∀ {d : D}, (∀ c fs, d ≠ .obj c fs) → (∀ xs, d ≠ .tup xs) → NoObj1 d := fun h1 h2 => ⟨h1, fun xs e => absurd e (h2 xs)⟩
  refine (Ok.cat (Q := fun l => l.length ≤ 1012 ∧ ∀ d ∈ l, Odd d) (by simp; omega) ⟨by simp; omega, fun d hd => ?_⟩).bd ?_
  · rcases List.mem_append.mp hd with hd | hd
    · exact ho d hd
    · rename_i h0
      clear h0
      revert hd
      revert d
      simp only [List.forall_mem_cons]
      have rn : ∀ y ∈ [eL eD []], Rpr y 3 2 false := fun y hy => by
        rw [List.mem_singleton.mp hy]
        exact rpr_lst (xs := []) (n := 0) (k := 0) (by simp)
      have rt : ∀ y ∈ [eT eD []], Rpr y 3 2 false := fun y hy => by
        rw [List.mem_singleton.mp hy]
        exact rpr_tup (xs := []) (n := 0) (k := 0) (by simp)
      refine ⟨on (nb (by simp [eU]) (by simp [eU])) (rpr_non (b := true)) (by decide) (by decide), on (nb (by simp) (by simp)) (rpr_bl (b := true)) (by decide) (by decide), on (nb (by simp) (by simp)) (rpr_int' (b := true) (by decide) (by decide)) (by decide) (by decide),
        on (nb (by simp) (by simp)) (rpr_str (b := true) (by decide)) (by decide) (by decide), on (nb (by simp) (by simp)) (rpr_str (b := true) (by decide)) (by decide) (by decide),
        on ⟨by simp [NoObj, eT], fun xs e => by cases e; simp⟩ (rpr_tup (xs := []) (n := 0) (k := 0) (b := true) (by simp)) (by decide) (by decide),
        on (nb (by simp [eL]) (by simp [eL])) (rpr_lst (xs := []) (n := 0) (k := 0) (by simp)) (by decide) (by decide), on (nb (by simp) (by simp)) rpr_dct (by decide) (by decide),
        on ⟨by simp [NoObj, eT], fun xs e => by cases e; simp [NoObj, eL]⟩ (rpr_tup rn) (by decide) (by decide), on ⟨by simp [NoObj, eT], fun xs e => by cases e; simp [NoObj, eT]⟩ (rpr_tup rt) (by decide) (by decide), og, oc, by simp⟩
  rintro some8 ⟨hl8, ho8⟩
  refine (Ok.lcOe (xs := some8) (g := fun _ => true) (Q := fun l => l.all id = true) (by omega) ?_ (by simp)).bd ?_
  · intro d hd
    rw [O.bind_ok]
    have := told_ok (gs := cs.zip hs) (rs := rodsL cs ps) (by have := Gk.ln; omega) (ho8 d hd)
    rw [e2] at this
    exact this
  intro l12 h12
  rw [h12]
  refine Ok.ite (fun z => by simp at z) (fun _ => ?_)
  have ei : isO 0 (mo (cs.zip hs) (rodsL cs ps)) = .ok () := rfl
  rw [ei]
  simp only [O.ok_bind]
  obtain ⟨v13, e13, _⟩ := moor_str_ok Gk R
  rw [e13]
  simp only [noX, O.ok_bind]
  refine (Ok.lcOe (g := fun _ => true) (Q := fun l => l.all id = true) (by simp [sz]) ?_ (by simp)).bd ?_
  · intro d hd
    rw [O.bind_ok]
    refine no_moor_ok ?_ sat
    revert hd d
    simp only [List.forall_mem_cons]
    exact ⟨fun _ _ => by simp [eU], fun _ _ => by simp, fun _ _ => by simp, fun _ _ => by simp, fun _ _ => by simp [eT], fun _ _ => by simp [eL], fun _ _ => by simp, fun _ _ => by simp, fun _ _ => by simp [eP], by simp⟩
  · intro l hl
    exact Ok.ret ⟨hl, H⟩
theorem right_ok {h : List Int} (H : Hand h) : Ok (t_law_right h) fun p => p.1 = true ∧ Hand p.2 := by
  unfold t_law_right
  refine (small_ok H (by decide) (by decide)).bd ?_
  rintro ⟨⟨cs, hs, ne, ps⟩, hd⟩ ⟨H, _, _, _, M⟩
  refine (one_ok H M).bd ?_
  rintro ⟨b, hd⟩ ⟨hb, H⟩
  simp only at hb ⊢
  subst hb
  simp only [if_true]
  refine Ok.bd (P := fun p => p.1 = true ∧ Hand p.2) ?_ ?_
  · refine (great_ok H).bd ?_
    rintro ⟨⟨cs, hs, ne, ps⟩, hd⟩ ⟨H, M⟩
    refine (one_ok H M).bd ?_
    rintro ⟨b, hd⟩ h
    exact Ok.ret h
  · rintro ⟨b, hd⟩ h
    exact Ok.ret h
theorem law_ok {ns : List Int} (hn : ns.length ≤ 63) : t_law ns = .ok true := by
  have hz := sz
  refine Ok.eq ?_
  unfold t_law
  have G0 : GOk [] := ⟨by decide, by simp, by simp, List.Pairwise.nil⟩
  have R0 : ROk [] [] := ⟨by decide, by simp, by simp, List.Pairwise.nil⟩
  have on : ∀ {d : D} {n k : Nat} {b : Bool}, NoObj1 d → Rpr d n k b → n ≤ 16777216 → k ≤ 60 → Odd d := fun h1 h2 h3 h4 => ⟨h1, h2.ok h3 h4⟩
  have nb : ∀ {d : D}, (∀ c fs, d ≠ .obj c fs) → (∀ xs, d ≠ .tup xs) → NoObj1 d := fun h1 h2 => ⟨h1, fun xs e => absurd e (h2 xs)⟩
  refine (Ok.lcOe (g := fun _ => true) (Q := fun l => l.all id = true) (by simp [sz]) ?_ (by simp)).bd ?_
  · intro d hd
    have em : t_Moor_init (D.obj 0 []) (eT eD []) (eT eD []) = .ok (mo [] []) := moor_ok G0 R0
    rw [em]
    simp only [O.ok_bind, O.bind_ok]
    refine told_ok (gs := []) (rs := []) (by decide) ?_
    revert hd d
    simp only [List.forall_mem_cons]
    have r0 : ∀ y ∈ [D.int 0], Rpr y 1921 0 false := fun y hy => by rw [List.mem_singleton.mp hy]; exact rpr_int' (by decide) (by decide)
    have rt : ∀ y ∈ [eT eD []], Rpr y 3 2 false := fun y hy => by
      rw [List.mem_singleton.mp hy]
      exact rpr_tup (xs := []) (n := 0) (k := 0) (by simp)
    exact ⟨on ⟨by simp [NoObj, eT], fun xs e => by cases e; simp⟩ (rpr_tup (xs := []) (n := 0) (k := 0) (b := true) (by simp)) (by decide) (by decide),
      on ⟨by simp [NoObj, eT], fun xs e => by cases e; simp [NoObj]⟩ (rpr_tup r0) (by decide) (by decide), on (nb (by simp [eL]) (by simp [eL])) (rpr_lst (xs := []) (n := 0) (k := 0) (by simp)) (by decide) (by decide),
      on (nb (by simp [eU]) (by simp [eU])) (rpr_non (b := true)) (by decide) (by decide), on ⟨by simp [NoObj, eT], fun xs e => by cases e; simp [NoObj, eT]⟩ (rpr_tup rt) (by decide) (by decide),
      on (nb (by simp) (by simp)) (rpr_str (b := true) (by decide)) (by decide) (by decide), on (nb (by simp) (by simp)) rpr_dct (by decide) (by decide), by simp⟩
  intro l7 h7
  rw [h7]
  refine Ok.ite (fun z => by simp at z) (fun _ => ?_)
  have hm : 2 ≤ maxI 2 (minI ns.length 8) ∧ maxI 2 (minI ns.length 8) ≤ 8 := by
    unfold maxI minI
    split <;> split <;> omega
  refine (Ok.rg1 (Q := fun r => (∀ x ∈ r, 0 ≤ x ∧ x < 8) ∧ r.length ≤ 8) (by omega) (by omega) ⟨fun x hx => by have := mem_rng.mp hx; omega, by rw [rng_len]; omega⟩).bd ?_
  rintro r ⟨hr, hlen⟩
  refine (Ok.lcO (xs := r) (fun _ b => b = true) (by omega) ?_).bd ?_
  · intro x hx
    have := hr x hx
    refine (cell_ok ns (by omega) (by omega)).bd fun v _ => ?_
    refine (hand_ok v).bd fun h H => ?_
    refine (right_ok H).bd ?_
    rintro ⟨b, hd⟩ ⟨hb, _⟩
    exact Ok.ret hb
  · intro l hl
    exact Ok.ret (F2.all hl fun _ _ b hb => hb)
theorem maths (ns : List Int) (h : ns.length ≤ 63) : ∃ o, MF_f_law [.scr ns] = .ok (.bl true) o := by
  have := q_law ns
  rw [law_ok h] at this
  unfold FSm at this
  exact ⟨_, this⟩
end Law
namespace Law
open PySem PySem.Spec PyProof.Rows L2 G
abbrev R : PySem.W.OpenRow := PySem.W.OpenLaw.row PySem.Challenge.rw_gaugemoor_k09_what_is_a_stand
def loose0 : List PySem.Str := ["_wall", "MoorError", "NoGauges", "NoRods", "NoName", "NoMoor", "GREAT", "MOST_GAUGES", "is_whole", "is_number", "is_name", "is_gauge"]
def loose1 : List PySem.Str := ["is_rod", "odd_gauge", "odd_rod", "Moor", "checked_moor", "is_stand", "_law_cell", "_law_hand", "_law_draw", "_law_calls", "_law_pairs", "_law_near"]
def loose2 : List PySem.Str := ["_law_moor_small", "_law_moor_great", "_law_sat", "_law_handed", "_law_is_sat", "_law_near_sats", "_law_told_right", "_law_no_moor", "_law_one_right", "_law_right"]
abbrev loose : List PySem.Str := loose0 ++ loose1 ++ loose2
abbrev hk : PySem.W.Hook := hookG 5 fa fn exB
def ob (s : PySem.W.SharedT) : AlG := obsG 5 fa fn exB (HandSHeadRun.getT s)
theorem ob_eq (s : PySem.W.SharedT) : ob s = hk.obs s.abs := obsG_eq (HandSHeadRun.getT_eq s)
theorem run (w : World) : HandSHeadRun.RunEq R (PySem.W.view R.prog [38]) hk ob 4000 loose w := by
  intro os
  kernel_rfl
end Law
namespace Law
open PySem PySem.Spec PyProof.Rows L2 G
theorem facts {P : Program} {w : World} {K : Frag} {h : Heap} {mg : PySem.Str → Option Value} {f : Addr} (X : K.In h) (N : h.Ns mainGlobals mg) (hfa : mg ("law" : PySem.Str) = some (.ref f)) (c : He.SaysD fa fn K) (ex : exB K = true) :
    ∃ fd : FuncData, (∀ (s : Shared) (v : Value), BindsTo s fd ⟨[v], []⟩ [("_law_script", v)]) ∧ ∀ base : Heap, FnG P w K mg base (L2.CX P w) 9 f fd ["_law_script"] (SpG K (ct K) [.fz] false MF_f_law) := by
  have y : Hy K mg h := ⟨X, N, c, ex⟩
  obtain ⟨fd, D, _, _, m, r⟩ := w_f_law (P := P) (w := w) y
  have e := hfa.symm.trans m
  have e2 : f = He.fAd K ("law", none) := by
    injection e with e
    injection e
  subst e2
  have b := FunD.bindsA (ps := ["_law_script"]) D fun _ _ _ _ _ _ us hl => match us, hl with | [_], _ => rfl
  exact ⟨fd, fun s v => b s [v] rfl, r⟩
end Law
open PySem PySem.W PySem.Calls PyProof.Rows
theorem PySem.Challenge.cw_gaugemoor_k09_what_is_a_stand_holds : PySem.Challenge.rw_gaugemoor_k09_what_is_a_stand.Holds := by
  w_on; o_law
  refine HandSHeadRun.head_any (r := OpenLaw.row PySem.Challenge.rw_gaugemoor_k09_what_is_a_stand) (q := view (OpenLaw.row PySem.Challenge.rw_gaugemoor_k09_what_is_a_stand).prog [38]) (H := Law.hk) (ob := Law.ob) (M := 4000) (loose := Law.loose) (d := HandSHeadRun.topDef (OpenLaw.row PySem.Challenge.rw_gaugemoor_k09_what_is_a_stand).prog 38) (kwd := []) Law.ob_eq
    (by kernel_rfl) (fun s => by kernel_rfl) Law.run (by kernel_rfl) (by kernel_rfl) (by kernel_rfl) (by rfl) (by first | assumption | decide +kernel) (by decide +kernel) ⟨rfl, rfl, rfl, rfl, rfl, by decide +kernel⟩ ?hw ?hc
  case hw => w_witness2
  case hc =>
    refine G.walk_ofG (l := PySem.Challenge.rw_gaugemoor_k09_what_is_a_stand) (n := 63) (k := 9) (x := "_law_script") rfl (by decide) (by kernel_rfl) ⟨rfl, by decide, by decide⟩ ?F
    intro w mg fa h Y N hmg0
    obtain ⟨K, KX, c, ex⟩ := Y
    have hmg : mg ("law" : PySem.Str) = some (.ref fa) := by
      have e : (HandSHeadRun.topDef (OpenLaw.row PySem.Challenge.rw_gaugemoor_k09_what_is_a_stand).prog 38).name = ("law" : PySem.Str) := by kernel_rfl
      rw [← e]
      exact hmg0
    obtain ⟨fd, hb, hF⟩ := Law.facts (P := (PySem.Challenge.rw_gaugemoor_k09_what_is_a_stand).prog) (w := w) KX N hmg c ex
    exact ⟨K, Law.ct K, fd, Law.MF_f_law, KX, hb, Law.maths, fun base _ _ => hF base⟩
