import PyProof.Rows.All
import Wide.All
import OpenK.AllK
import Wide.FinOn
import HandS.ForMost
import HandS.TupAny
import HandS.Flow
import HandS.Style
import HandS.Defaults
import HandS.HeadEnd
import HandS.IsInst
import HandS.Deep
import HandS.TupLe
import HandS.Zip
import HandS.Codes
import HandS.RaiseMore
import PyProof.Rows.StrCase
import PyProof.Rows.RegReprOcc
import KE.KDictPairs
import HandS.More
import KE.SortData
import KE.KDictSum
import HandS.Conv
import HandS.SetFor
import HandS.SetKeys
import PyProof.Rows.SetListFold
import HandS.NoneIn
import HandS.Iter
import HandS.TupMul
import PyProof.ReprRoads
import HandS.DictTup
import HandS.WordsDict
import KE.LtData
import KE.KStateDown
import Lean
import HandS.Base
import HandS.Call
import HandS.Ends
import HandS.Words
import HandS.WordsExc
import HandS.Head0
import HandS.Head1
import HandS.Head2
import HandS.HeadHook1
import HandS.HeadHook2
import PySem.Challenge.RW_rankseals_k14_rows_of_many_leaves
set_option Elab.async false
set_option linter.all false
set_option autoImplicit false
set_option maxRecDepth 100000
set_option maxHeartbeats 4000000
/-! PLa: data that stands frozen in the heap, data owned by a slot, the store (slots and temps) and how it may change. -/
namespace PL
open PySem PySem.Spec PyProof.Rows L2

abbrev D := PyData
def kD : Key → D
  | .inl i => .int i
  | .inr s => .str s
def tD (ks : List Key) : D := .tuple (ks.map kD)

def Ex (H H' : Hp) : Prop := ∀ a o, H a = some o → H' a = some o
theorem Ex.refl (H : Hp) : Ex H H := fun _ _ h => h
theorem Ex.trans {H H1 H2 : Hp} (a : Ex H H1) (b : Ex H1 H2) : Ex H H2 := fun x o h => b x o (a x o h)
theorem Ex.updN {H : Hp} {p : Addr} {o : HO} (h : H p = none) : Ex H (upd H p o) := fun a u q => by
  rw [upd_ne (ne_of_none q h)]; exact q
theorem Ex.updM {M H : Hp} {p : Addr} {o : HO} (e : Ex M H) (h : M p = none) : Ex M (upd H p o) := fun a u q => by
  rw [upd_ne (ne_of_none q h)]; exact e a u q
theorem Ex.none {M H : Hp} {p : Addr} (e : Ex M H) (h : H p = none) : M p = none := by
  cases q : M p with
  | none => rfl
  | some o => have := e p o q; rw [h] at this; cases this
theorem Ex.rd {H H' : Hp} {a : Addr} {u : HO} (e : Ex H H') : Rd H a u → Rd H' a u
  | .inl h => .inl (e _ _ h)
  | .inr ⟨o, h⟩ => .inr ⟨o, e _ _ h⟩
theorem Ex.l {K : PySem.W.Frag} {H H' : Hp} {a : Addr} {xs : List V} (e : Ex H H') : SqL K H a xs → SqL K H' a xs
  | .inl h => .inl (e.rd h)
  | .inr h => .inr h
theorem Ex.t0 {K : PySem.W.Frag} {H H' : Hp} {a : Addr} {xs : List V} (e : Ex H H') : SqT K H a xs → SqT K H' a xs
  | .inl h => .inl (e.rd h)
  | .inr h => .inr h
/-! a tuple of pairs is known to its object: it has no dict (dict(t) asks that) -/
def isK : D → Bool
  | .int _ => true
  | .str _ => true
  | _ => false
def pairOf : D → Option (D × D)
  | .tuple [k, v] => if isK k then some (k, v) else none
  | _ => none
def pairsOf : List D → Option (List (D × D))
  | [] => some []
  | d :: ds => match pairOf d, pairsOf ds with
    | some p, some ps => some (p :: ps)
    | _, _ => none
def NoD (K : PySem.W.Frag) (H : Hp) (a : Addr) : Prop := (∃ o u, H a = some (.frz o u) ∧ o.dict = none) ∨ ∃ o, K.lookup a = some o ∧ o.dict = none
theorem Ex.d {K : PySem.W.Frag} {H H' : Hp} {a : Addr} (e : Ex H H') : NoD K H a → NoD K H' a
  | .inl ⟨o, u, h, q⟩ => .inl ⟨o, u, e _ _ h, q⟩
  | .inr h => .inr h
def SqN (K : PySem.W.Frag) (H : Hp) (ds : List D) (a : Addr) (xs : List V) : Prop := SqT K H a xs ∧ (pairsOf ds ≠ none → NoD K H a)
theorem Ex.n {K : PySem.W.Frag} {H H' : Hp} {ds : List D} {a : Addr} {xs : List V} (e : Ex H H') (h : SqN K H ds a xs) : SqN K H' ds a xs := ⟨e.t0 h.1, fun q => e.d (h.2 q)⟩
theorem Ex.t {K : PySem.W.Frag} {H H' : Hp} {ds : List D} {a : Addr} {xs : List V} (e : Ex H H') (h : SqN K H ds a xs) : SqT K H' a xs := e.t0 h.1
theorem SqN.new {K : PySem.W.Frag} {H : Hp} {ds : List D} {p : Addr} {o : Obj} {xs : List V} (h : o.dict = none) : SqN K (upd H p (.frz o (.tup xs))) ds p xs := ⟨.inl (.inr ⟨o, upd_same⟩), fun _ => .inl ⟨o, _, upd_same, h⟩⟩
/-! ### tuples made -/
section
variable {X : Cx} {es : List Expr} {t : TA} {pos : Pos}
theorem laidN {pins : List (Addr × Obj)} {σ : L2.St} {H : Hp} {s : Shared} {xs : List V} {its : List Value} (I : Inv X pins σ H s) (hz : xs.length ≤ sizeLine) (r : Vals xs its) :
    Inv X pins σ (upd H s.heap.objs.size (.frz { cls := .type "tuple", data := .seq its.toArray } (.tup xs))) { s with heap := s.heap.push { cls := .type "tuple", data := .seq its.toArray } } :=
  I.laid (t' := s.toks) (fun b u e => Heap.get?_push_of_some _ e) (Nat.le_refl _) ⟨Heap.get?_push_size _ rfl, hz, its, r, IsTup.new _ _⟩
def tTupN (t : TA) : TE := fun σ H Q => t σ H fun xs H1 => xs.length ≤ sizeLine ∧ ∀ p o, H1 p = none → o.dict = none → Q (.ref p) (upd H1 p (.frz o (.tup xs)))
theorem pe_tupN {x1} (h : PA X es t) : PE X (.Tuple es x1 pos) (tTupN t) := by
  constructor
  intro pins s σ H Q I hq
  apply wpAny_Tuple_spliced
  apply thn (h.run pos pins s σ H _ I hq)
  rintro us s1 ⟨xs, H1, I1, r, z, q⟩
  refine ⟨by rw [← r.length]; exact z, .ref s1.heap.objs.size, _, laidN I1 z r, rfl, q _ _ (I1.hok.fresh (Nat.le_refl _)) rfl⟩
def rCatN (K : PySem.W.Frag) : R2 := fun x y H Q => ∃ a b xs ys, x = .ref a ∧ y = .ref b ∧ SqT K H a xs ∧ SqT K H b ys ∧ xs.length + ys.length ≤ sizeLine ∧
  (xs = [] → Q (.ref b) H) ∧ (ys = [] → Q (.ref a) H) ∧ ∀ p o, H p = none → o.dict = none → Q (.ref p) (upd H p (.frz o (.tup (xs ++ ys))))
theorem op_catN : OpR X (binaryOp .Add) (rCatN X.K) := by
  intro pins s σ H x y v u Q I rx ry h
  obtain ⟨a, b, xs, ys, rfl, rfl, ha, hb, hz, q0, q1, q2⟩ := h
  have e1 : v = Value.ref a := rx
  have e2 : u = Value.ref b := ry
  subst e1 e2
  obtain ⟨its, r1, p1, _⟩ := I.tuple ha
  obtain ⟨its2, r2, p2, _⟩ := I.tuple hb
  by_cases hx : xs = []
  · subst hx
    cases r1
    exact cat_tup0 p1 p2 ⟨.ref b, H, I, rfl, q0 rfl⟩
  · apply HT.cat_tup p1 p2 (fun z => hx (r1.nil_iff.mp z)) (fun z => ⟨.ref a, H, I, rfl, q1 (r2.nil_iff.mp z)⟩) ?_ (by rw [← r1.length, ← r2.length]; exact hz)
    intro z
    exact ⟨.ref s.heap.objs.size, _, laidN I (by rw [List.length_append]; exact hz) (r1.append r2), rfl, q2 _ _ (I.hok.fresh (Nat.le_refl _)) rfl⟩
def rSlN (K : PySem.W.Frag) : V → Option Int → Option Int → Hp → VK → Prop := fun x lo hi H Q => ∃ a xs, x = .ref a ∧ SqT K H a xs ∧
  (HT.sIx xs.length 0 lo = 0 ∧ HT.sIx xs.length xs.length hi = xs.length → Q (.ref a) H) ∧ ∀ p o, H p = none → o.dict = none → Q (.ref p) (upd H p (.frz o (.tup (cutV xs lo hi))))
theorem sl_tupN : SlR X (rSlN X.K) := by
  intro pins s σ H x v vl vu lo hi sl Q I rx hs pl pu h
  obtain ⟨a, xs, rfl, hx, q1, q2⟩ := h
  have e1 : v = Value.ref a := rx
  subst e1
  obtain ⟨its, r, ht, hz⟩ := I.tuple hx
  have hlen : its.toArray.size = xs.length := by rw [List.size_toArray]; exact r.length.symm
  refine ⟨"tuple", _, PyProof.Rows.slot_tuple_getitem.lookup, ht.typeIs, ?_⟩
  by_cases hw : HT.sIx xs.length 0 lo = 0 ∧ HT.sIx xs.length xs.length hi = xs.length
  · exact getItem_tuple_whole ht hs pl pu (by rw [hlen]; exact hw) ⟨.ref a, H, I, rfl, q1 hw⟩
  · apply HT.getItem_tuple_cut ht hs pl pu (by rw [hlen]; exact hw) ?_ (by rw [hlen]; exact hz)
    rw [hlen]
    exact ⟨.ref s.heap.objs.size, _, laidN I (Nat.le_trans (cutV_length xs lo hi) hz) ((r.drop _).take _), rfl, q2 _ _ (I.hok.fresh (Nat.le_refl _)) rfl⟩
theorem call_tupN : CallR X (.type "tuple") (fun xs H Q => ∃ p ys, xs = [.ref p] ∧ ((SqL X.K H p ys ∧ ∀ l o, H l = none → o.dict = none → Q (.ref l) (upd H l (.frz o (.tup ys)))) ∨ (SqT X.K H p ys ∧ Q (.ref p) H))) := by
  intro pins s σ H xs us Q I r h
  obtain ⟨p, ys, rfl, h⟩ := h
  obtain ⟨u, rfl, rx⟩ := vals1 r
  have e1 : u = Value.ref p := rx
  subst e1
  rcases h with ⟨hq, q⟩ | ⟨hq, q⟩
  · obtain ⟨its, r', pl, hz⟩ := I.list hq
    have hlen := r'.length
    apply call_tuple_list pl.isList ?_ (by simp only [List.size_toArray] <;> omega)
    intro h' kp
    have I1 : Inv X pins σ H { s with heap := h' } := I.kept (t' := s.toks) kp
    exact ⟨.ref h'.objs.size, _, laidN I1 hz r', rfl, q _ _ (I1.hok.fresh (Nat.le_refl _)) rfl⟩
  · obtain ⟨its, r', pl, hz⟩ := I.tuple hq
    exact call_tuple_same pl ⟨.ref p, H, I, rfl, q⟩
end

/-! ### frozen data -/
mutual
def Fz (K : PySem.W.Frag) (H : Hp) : D → V → Prop
  | .none, v => v = .non
  | .bool b, v => v = .bl b
  | .int i, v => v = .int i
  | .str s, v => v = .str s
  | .list ds, v => ∃ a vs, v = .ref a ∧ H a = some (.lst vs) ∧ FzL K H ds vs
  | .tuple ds, v => ∃ a vs, v = .ref a ∧ SqN K H ds a vs ∧ FzL K H ds vs
  | .dict kds, v => ∃ a, v = .ref a ∧ ((∃ kvs : List (Key × V), Rd H a (.dK kvs) ∧ kds.map Prod.fst = kvs.map (fun p => kD p.1) ∧ FzV K H kds (kvs.map Prod.snd)) ∨
      (∃ kvs : List (List Key × V), Rd H a (.dT kvs) ∧ kds.map Prod.fst = .none :: kvs.map (fun p => tD p.1) ∧ FzV K H kds (V.non :: kvs.map Prod.snd)))
def FzL (K : PySem.W.Frag) (H : Hp) : List D → List V → Prop
  | [], vs => vs = []
  | d :: ds, vs => ∃ v r, vs = v :: r ∧ Fz K H d v ∧ FzL K H ds r
def FzV (K : PySem.W.Frag) (H : Hp) : List (D × D) → List V → Prop
  | [], vs => vs = []
  | (_, d) :: ds, vs => ∃ v r, vs = v :: r ∧ Fz K H d v ∧ FzV K H ds r
end
section
variable {K : PySem.W.Frag} {H H' : Hp}
theorem fzV_iff : ∀ (kds : List (D × D)) (vs : List V), FzV K H kds vs ↔ FzL K H (kds.map Prod.snd) vs
  | [], vs => by simp [FzV, FzL]
  | (k, d) :: r, vs => by
    simp only [FzV, List.map_cons, FzL]
    constructor
    · rintro ⟨v, q, e, h, t⟩; exact ⟨v, q, e, h, (fzV_iff r q).mp t⟩
    · rintro ⟨v, q, e, h, t⟩; exact ⟨v, q, e, h, (fzV_iff r q).mpr t⟩
mutual
theorem Fz.mono (e : Ex H H') : ∀ (d : D) (v : V), Fz K H d v → Fz K H' d v
  | .none, v, h => by simpa [Fz] using h
  | .bool b, v, h => by simpa [Fz] using h
  | .int i, v, h => by simpa [Fz] using h
  | .str s, v, h => by simpa [Fz] using h
  | .list ds, v, h => by
    simp only [Fz] at h ⊢
    obtain ⟨a, vs, q, s, t⟩ := h
    exact ⟨a, vs, q, e _ _ s, FzL.mono e ds vs t⟩
  | .tuple ds, v, h => by
    simp only [Fz] at h ⊢
    obtain ⟨a, vs, q, s, t⟩ := h
    exact ⟨a, vs, q, e.n s, FzL.mono e ds vs t⟩
  | .dict kds, v, h => by
    simp only [Fz] at h ⊢
    obtain ⟨a, q, t⟩ := h
    refine ⟨a, q, ?_⟩
    rcases t with ⟨kvs, r, k, t⟩ | ⟨kvs, r, k, t⟩
    · exact .inl ⟨kvs, e.rd r, k, FzV.mono e kds _ t⟩
    · exact .inr ⟨kvs, e.rd r, k, FzV.mono e kds _ t⟩
theorem FzL.mono (e : Ex H H') : ∀ (ds : List D) (vs : List V), FzL K H ds vs → FzL K H' ds vs
  | [], vs, h => by simpa [FzL] using h
  | d :: ds, vs, h => by
    simp only [FzL] at h ⊢
    obtain ⟨v, r, q, s, t⟩ := h
    exact ⟨v, r, q, Fz.mono e d v s, FzL.mono e ds r t⟩
theorem FzV.mono (e : Ex H H') : ∀ (ds : List (D × D)) (vs : List V), FzV K H ds vs → FzV K H' ds vs
  | [], vs, h => by simpa [FzV] using h
  | (k, d) :: ds, vs, h => by
    simp only [FzV] at h ⊢
    obtain ⟨v, r, q, s, t⟩ := h
    exact ⟨v, r, q, Fz.mono e d v s, FzV.mono e ds r t⟩
end
theorem FzL.nil : FzL K H [] [] := by simp [FzL]
theorem FzL.cons {d : D} {ds : List D} {v : V} {vs : List V} (h : Fz K H d v) (t : FzL K H ds vs) : FzL K H (d :: ds) (v :: vs) := by
  simp only [FzL]; exact ⟨v, vs, rfl, h, t⟩
theorem FzL.cons_iff {d : D} {ds : List D} {v : V} {vs : List V} : FzL K H (d :: ds) (v :: vs) ↔ Fz K H d v ∧ FzL K H ds vs := by
  simp only [FzL]
  constructor
  · rintro ⟨w, r, e, h, t⟩; cases e; exact ⟨h, t⟩
  · rintro ⟨h, t⟩; exact ⟨v, vs, rfl, h, t⟩
theorem FzL.length : ∀ {ds : List D} {vs : List V}, FzL K H ds vs → ds.length = vs.length
  | [], vs, h => by simp only [FzL] at h; subst h; rfl
  | d :: ds, vs, h => by
    simp only [FzL] at h
    obtain ⟨v, r, rfl, _, t⟩ := h
    simp [FzL.length t]
theorem FzL.get : ∀ {ds : List D} {vs : List V} {i : Nat} {d : D}, FzL K H ds vs → ds[i]? = some d → ∃ v, vs[i]? = some v ∧ Fz K H d v
  | [], vs, i, d, h, e => by simp at e
  | x :: ds, vs, i, d, h, e => by
    simp only [FzL] at h
    obtain ⟨v, r, rfl, s, t⟩ := h
    cases i with
    | zero => simp at e; subst e; exact ⟨v, rfl, s⟩
    | succ i => simpa using FzL.get t (by simpa using e)
theorem FzL.getV {ds : List D} {vs : List V} {i : Nat} {v : V} (h : FzL K H ds vs) (e : vs[i]? = some v) : ∃ d, ds[i]? = some d ∧ Fz K H d v := by
  have hl := h.length
  have hi : i < ds.length := by
    have := (List.getElem?_eq_some_iff.mp e).1; omega
  obtain ⟨w, q, s⟩ := h.get (i := i) (d := ds[i]) (List.getElem?_eq_getElem hi)
  rw [e] at q; cases q
  exact ⟨_, List.getElem?_eq_getElem hi, s⟩
theorem FzL.append : ∀ {ds es : List D} {vs us : List V}, FzL K H ds vs → FzL K H es us → FzL K H (ds ++ es) (vs ++ us)
  | [], es, vs, us, h, t => by simp only [FzL] at h; subst h; exact t
  | d :: ds, es, vs, us, h, t => by
    simp only [FzL] at h
    obtain ⟨v, r, rfl, s, q⟩ := h
    exact FzL.cons s (FzL.append q t)
theorem FzL.of_get : ∀ {ds : List D} {vs : List V}, ds.length = vs.length → (∀ (i : Nat) d v, ds[i]? = some d → vs[i]? = some v → Fz K H d v) → FzL K H ds vs
  | [], [], _, _ => .nil
  | d :: ds, v :: vs, hl, h => .cons (h 0 d v rfl rfl) (FzL.of_get (by simpa using hl) fun i d' v' e1 e2 => h (i + 1) d' v' (by simpa using e1) (by simpa using e2))
  | [], _ :: _, hl, _ => by simp at hl
  | _ :: _, [], hl, _ => by simp at hl
theorem FzL.take {ds : List D} {vs : List V} (n : Nat) (h : FzL K H ds vs) : FzL K H (ds.take n) (vs.take n) := by
  refine FzL.of_get (by simp [h.length]) fun i d v e1 e2 => ?_
  rw [List.getElem?_take] at e1 e2
  split at e1
  · rename_i hi
    rw [if_pos hi] at e2
    obtain ⟨w, q, s⟩ := h.get e1
    rw [e2] at q; cases q; exact s
  · cases e1
theorem FzL.drop {ds : List D} {vs : List V} (n : Nat) (h : FzL K H ds vs) : FzL K H (ds.drop n) (vs.drop n) := by
  refine FzL.of_get (by simp [h.length]) fun i d v e1 e2 => ?_
  rw [List.getElem?_drop] at e1 e2
  obtain ⟨w, q, s⟩ := h.get e1
  rw [e2] at q; cases q; exact s
theorem FzL.set {ds : List D} {vs : List V} {d : D} {v : V} (n : Nat) (h : FzL K H ds vs) (s : Fz K H d v) : FzL K H (ds.set n d) (vs.set n v) := by
  refine FzL.of_get (by simp [h.length]) fun i d' v' e1 e2 => ?_
  rw [List.getElem?_set] at e1 e2
  have hl := h.length
  by_cases hi : n = i
  · subst hi
    rw [if_pos rfl] at e1 e2
    split at e1
    · rename_i hlt
      rw [if_pos (by omega)] at e2
      cases e1; cases e2; exact s
    · cases e1
  · rw [if_neg hi] at e1 e2
    obtain ⟨w, q, s'⟩ := h.get e1
    rw [e2] at q; cases q; exact s'
theorem FzL.eraseIdx : ∀ {ds : List D} {vs : List V} (n : Nat), FzL K H ds vs → FzL K H (ds.eraseIdx n) (vs.eraseIdx n)
  | [], vs, n, h => by simp only [FzL] at h; subst h; simpa using FzL.nil
  | d :: ds, vs, n, h => by
    simp only [FzL] at h
    obtain ⟨v, r, rfl, s, q⟩ := h
    cases n with
    | zero => simpa using q
    | succ n => simpa using FzL.cons s (FzL.eraseIdx n q)
theorem FzL.reverse : ∀ {ds : List D} {vs : List V}, FzL K H ds vs → FzL K H ds.reverse vs.reverse
  | [], vs, h => by simp only [FzL] at h; subst h; simpa using FzL.nil
  | d :: ds, vs, h => by
    simp only [FzL] at h
    obtain ⟨v, r, rfl, s, q⟩ := h
    simpa using (FzL.reverse q).append (FzL.cons s .nil)
end

/-! ### owned data: the root at a is this slot's own, what it holds is frozen -/
def OwnAt (K : PySem.W.Frag) (M H : Hp) : D → Addr → Prop
  | .list ds, a => ∃ vs, H a = some (.lst vs) ∧ FzL K M ds vs
  | .tuple ds, a => ∃ vs, H a = some (.tup vs) ∧ FzL K M ds vs
  | .dict kds, a => (∃ kvs : List (Key × V), H a = some (.dK kvs) ∧ kds.map Prod.fst = kvs.map (fun p => kD p.1) ∧ FzL K M (kds.map Prod.snd) (kvs.map Prod.snd)) ∨
      (∃ kvs : List (List Key × V), H a = some (.dT kvs) ∧ kds.map Prod.fst = .none :: kvs.map (fun p => tD p.1) ∧ FzL K M (kds.map Prod.snd) (V.non :: kvs.map Prod.snd))
  | _, _ => False
theorem OwnAt.some {K : PySem.W.Frag} {M H : Hp} {d : D} {a : Addr} (h : OwnAt K M H d a) : ∃ o, H a = some o := by
  cases d <;> simp only [OwnAt] at h <;> try exact h.elim
  · obtain ⟨vs, e, _⟩ := h; exact ⟨_, e⟩
  · obtain ⟨vs, e, _⟩ := h; exact ⟨_, e⟩
  · rcases h with ⟨kvs, e, _⟩ | ⟨kvs, e, _⟩ <;> exact ⟨_, e⟩
theorem OwnAt.step {K : PySem.W.Frag} {M M' H H' : Hp} {d : D} {a : Addr} (h : OwnAt K M H d a) (e : Ex M M') (k : ∀ o, H a = Option.some o → H' a = Option.some o) : OwnAt K M' H' d a := by
  cases d <;> simp only [OwnAt] at h ⊢ <;> try exact h.elim
  · obtain ⟨vs, q, t⟩ := h; exact ⟨vs, k _ q, t.mono e⟩
  · obtain ⟨vs, q, t⟩ := h; exact ⟨vs, k _ q, t.mono e⟩
  · rcases h with ⟨kvs, q, t, u⟩ | ⟨kvs, q, t, u⟩
    · exact .inl ⟨kvs, k _ q, t, u.mono e⟩
    · exact .inr ⟨kvs, k _ q, t, u.mono e⟩
theorem OwnAt.isTup {K : PySem.W.Frag} {M H : Hp} {d : D} {a : Addr} {vs : List V} (t : OwnAt K M H d a) (h : H a = Option.some (HO.tup vs)) : ∃ ds, d = PyData.tuple ds := by
  cases d <;> simp only [OwnAt] at t
  · obtain ⟨_, q, _⟩ := t; rw [h] at q; cases q
  · exact ⟨_, rfl⟩
  · rcases t with ⟨_, q, _⟩ | ⟨_, q, _⟩ <;> rw [h] at q <;> cases q
/-- an owned root, frozen -/
def okF : D → Bool
  | .tuple ds => (pairsOf ds).isNone
  | _ => true
theorem OwnAt.freeze {K : PySem.W.Frag} {M M' H : Hp} {d : D} {a : Addr} (h : OwnAt K M H d a) (hF : okF d = true) (e : Ex M M') (k : ∀ o, H a = Option.some o → M' a = Option.some o) : Fz K M' d (.ref a) := by
  cases d <;> simp only [OwnAt] at h <;> try exact h.elim
  · obtain ⟨vs, q, t⟩ := h
    simp only [Fz]
    exact ⟨a, vs, rfl, k _ q, t.mono e⟩
  · obtain ⟨vs, q, t⟩ := h
    simp only [Fz]
    exact ⟨a, vs, rfl, ⟨.inl (.inl (k _ q)), fun z => absurd (Option.isNone_iff_eq_none.mp hF) z⟩, t.mono e⟩
  · simp only [Fz]
    refine ⟨a, rfl, ?_⟩
    rcases h with ⟨kvs, q, t, u⟩ | ⟨kvs, q, t, u⟩
    · exact .inl ⟨kvs, .inl (k _ q), t, (fzV_iff _ _).mpr (u.mono e)⟩
    · exact .inr ⟨kvs, .inl (k _ q), t, (fzV_iff _ _).mpr (u.mono e)⟩

/-! ### what a reader sees -/
def Vw (K : PySem.W.Frag) (M H : Hp) : D → V → Prop
  | .list ds, v => ∃ a vs, v = .ref a ∧ H a = some (.lst vs) ∧ FzL K M ds vs
  | .dict kds, v => ∃ a, v = .ref a ∧ ((∃ kvs : List (Key × V), Rd H a (.dK kvs) ∧ kds.map Prod.fst = kvs.map (fun p => kD p.1) ∧ FzL K M (kds.map Prod.snd) (kvs.map Prod.snd)) ∨
      (∃ kvs : List (List Key × V), Rd H a (.dT kvs) ∧ kds.map Prod.fst = .none :: kvs.map (fun p => tD p.1) ∧ FzL K M (kds.map Prod.snd) (V.non :: kvs.map Prod.snd)))
  | d, v => Fz K M d v
theorem Fz.vw {K : PySem.W.Frag} {M H : Hp} {d : D} {v : V} (e : Ex M H) (h : Fz K M d v) : Vw K M H d v := by
  cases d with
  | list ds => simp only [Fz] at h; obtain ⟨a, vs, q, s, t⟩ := h; exact ⟨a, vs, q, e _ _ s, t⟩
  | dict kds =>
    simp only [Fz] at h
    obtain ⟨a, q, t⟩ := h
    refine ⟨a, q, ?_⟩
    rcases t with ⟨kvs, r, k, t⟩ | ⟨kvs, r, k, t⟩
    · exact .inl ⟨kvs, e.rd r, k, (fzV_iff _ _).mp t⟩
    · exact .inr ⟨kvs, e.rd r, k, (fzV_iff _ _).mp t⟩
  | none => exact h
  | bool b => exact h
  | int i => exact h
  | str s => exact h
  | tuple ds => exact h
def nt : D → Option D
  | .tuple _ => none
  | d => some d
theorem nt_some {d e : D} (h : nt d = some e) : d = e ∧ ∀ ds, d ≠ .tuple ds := by
  cases d <;> simp only [nt] at h <;> first | cases h; exact ⟨rfl, fun ds z => by cases z⟩ | cases h
theorem OwnAt.vw {K : PySem.W.Frag} {M H : Hp} {d : D} {a : Addr} (h : OwnAt K M H d a) (ht : ∀ ds, d ≠ .tuple ds) : Vw K M H d (.ref a) := by
  cases d <;> simp only [OwnAt] at h <;> try exact h.elim
  · obtain ⟨vs, q, t⟩ := h; exact ⟨a, vs, rfl, q, t⟩
  · exact absurd rfl (ht _)
  · refine ⟨a, rfl, ?_⟩
    rcases h with ⟨kvs, q, t, u⟩ | ⟨kvs, q, t, u⟩
    · exact .inl ⟨kvs, .inl q, t, u⟩
    · exact .inr ⟨kvs, .inl q, t, u⟩

/-! ### slots, temps, the store -/
inductive Kd | fz | ow | io | sc
  deriving DecidableEq
def Kd.own : Kd → Bool
  | .ow => true
  | .io => true
  | _ => false
abbrev Slot := Option (Kd × D)
abbrev DEnv := List Slot
inductive Res | fz (d : D) | ow (d : D) | loc (i : Nat) | junk

/-- an owned root is not frozen, unless it is a tuple -/
def NM (M : Hp) (a : Addr) (d : D) : Prop := M a = none ∨ ∃ ds, d = .tuple ds
theorem NM.none {M : Hp} {a : Addr} {d : D} (h : NM M a d) (t : ∀ ds, d ≠ .tuple ds) : M a = Option.none := h.elim id fun ⟨ds, e⟩ => absurd e (t ds)
/-- P: what was there ahead and is nobody's of this frame; B: of that what may be looked at; M: what is frozen -/
structure RepC (K : PySem.W.Frag) (P B M : Hp) (e : DEnv) (σ : L2.St) (H : Hp) : Prop where
  mh : Ex M H
  bm : Ex B M
  ph : Ex P H
  pb : ∀ a, P a ≠ none → M a ≠ none → B a ≠ none ∨ ∃ vs, M a = some (.tup vs)
  len : e.length = σ.length
  fz : ∀ (i : Nat) d, e[i]? = some (some (.fz, d)) → ∃ v, σ[i]? = some (some v) ∧ Fz K M d v
  sc : ∀ (i : Nat) d, e[i]? = some (some (.sc, d)) → ∃ (a : Addr) (ns : List Int), σ[i]? = some (some (.ref a)) ∧ SqL K M a (ns.map V.int) ∧ d = .list (ns.map PyData.int)
  ow : ∀ (i : Nat) k d, e[i]? = some (some (k, d)) → k.own = true → ∃ a, σ[i]? = some (some (.ref a)) ∧ OwnAt K M H d a ∧ NM M a d ∧ P a = none
  inj : ∀ (i j : Nat) a k k' d d', e[i]? = some (some (k, d)) → k.own = true → e[j]? = some (some (k', d')) → k'.own = true → σ[i]? = some (some (.ref a)) → σ[j]? = some (some (.ref a)) → i = j

section
variable {K : PySem.W.Frag} {P B M : Hp} {e : DEnv} {σ : L2.St} {H : Hp}
theorem app_get {α : Type} {l : List α} {x y : α} {i : Nat} (h : (l ++ [x])[i]? = some y) : (i < l.length ∧ l[i]? = some y) ∨ (i = l.length ∧ y = x) := by
  by_cases hi : i < l.length
  · rw [List.getElem?_append_left hi] at h; exact .inl ⟨hi, h⟩
  · rw [List.getElem?_append_right (by omega)] at h
    by_cases h0 : i - l.length = 0
    · rw [h0] at h; simp at h; exact .inr ⟨by omega, h.symm⟩
    · have : ([x] : List α)[i - l.length]? = none := by
        rw [List.getElem?_eq_none_iff]; simp; omega
      rw [this] at h; cases h
theorem app_l {α : Type} {l : List α} {x y : α} {i : Nat} (h : l[i]? = some y) : (l ++ [x])[i]? = some y := by
  rw [List.getElem?_append_left (List.getElem?_eq_some_iff.mp h).1]; exact h
theorem app_last {α : Type} {l : List α} {x : α} : (l ++ [x])[l.length]? = some x := by simp

theorem RepC.ne_new (r : RepC K P B M e σ H) {p : Addr} (hp : H p = none) {i : Nat} {k : Kd} {d : D} (h : e[i]? = some (some (k, d))) (hk : k.own = true) : σ[i]? ≠ some (some (.ref p)) := by
  intro q
  obtain ⟨a, s, o, _, _⟩ := r.ow i k d h hk
  rw [s] at q; cases q
  obtain ⟨o', ho⟩ := o.some
  rw [hp] at ho; cases ho
theorem RepC.push_fz {d : D} {v : V} (r : RepC K P B M e σ H) (h : Fz K M d v) : RepC K P B M (e ++ [some (.fz, d)]) (σ ++ [some v]) H where
  mh := r.mh
  bm := r.bm
  ph := r.ph
  pb := r.pb
  len := by simp [r.len]
  fz := fun i d' q => by
    rcases app_get q with ⟨_, q⟩ | ⟨hi, q⟩
    · obtain ⟨w, s, t⟩ := r.fz i d' q; exact ⟨w, app_l s, t⟩
    · cases q; subst hi; rw [r.len]; exact ⟨v, app_last, h⟩
  sc := fun i d' q => by
    rcases app_get q with ⟨_, q⟩ | ⟨hi, q⟩
    · obtain ⟨w, n, s, t⟩ := r.sc i d' q; exact ⟨w, n, app_l s, t⟩
    · cases q
  ow := fun i k d' q hk => by
    rcases app_get q with ⟨_, q⟩ | ⟨hi, q⟩
    · obtain ⟨w, s, t⟩ := r.ow i k d' q hk; exact ⟨w, app_l s, t⟩
    · cases q; exact absurd hk (by decide)
  inj := fun i j a k k' d1 d2 q hk q' hk' s s' => by
    rcases app_get q with ⟨hi, q⟩ | ⟨hi, q⟩
    · rcases app_get q' with ⟨hj, q'⟩ | ⟨hj, q'⟩
      · rw [List.getElem?_append_left (by rw [← r.len]; exact hi)] at s
        rw [List.getElem?_append_left (by rw [← r.len]; exact hj)] at s'
        exact r.inj i j a k k' d1 d2 q hk q' hk' s s'
      · cases q'; exact absurd hk' (by decide)
    · cases q; exact absurd hk (by decide)
theorem RepC.push_none {v : Option V} (r : RepC K P B M e σ H) : RepC K P B M (e ++ [none]) (σ ++ [v]) H where
  mh := r.mh
  bm := r.bm
  ph := r.ph
  pb := r.pb
  len := by simp [r.len]
  fz := fun i d' q => by
    rcases app_get q with ⟨_, q⟩ | ⟨hi, q⟩
    · obtain ⟨w, s, t⟩ := r.fz i d' q; exact ⟨w, app_l s, t⟩
    · cases q
  sc := fun i d' q => by
    rcases app_get q with ⟨_, q⟩ | ⟨hi, q⟩
    · obtain ⟨w, n, s, t⟩ := r.sc i d' q; exact ⟨w, n, app_l s, t⟩
    · cases q
  ow := fun i k d' q hk => by
    rcases app_get q with ⟨_, q⟩ | ⟨hi, q⟩
    · obtain ⟨w, s, t⟩ := r.ow i k d' q hk; exact ⟨w, app_l s, t⟩
    · cases q
  inj := fun i j a k k' d1 d2 q hk q' hk' s s' => by
    rcases app_get q with ⟨hi, q⟩ | ⟨hi, q⟩
    · rcases app_get q' with ⟨hj, q'⟩ | ⟨hj, q'⟩
      · rw [List.getElem?_append_left (by rw [← r.len]; exact hi)] at s
        rw [List.getElem?_append_left (by rw [← r.len]; exact hj)] at s'
        exact r.inj i j a k k' d1 d2 q hk q' hk' s s'
      · cases q'
    · cases q
theorem RepC.push_ow {d : D} {a : Addr} (r : RepC K P B M e σ H) (h : OwnAt K M H d a) (hm : NM M a d) (hp : P a = none)
    (hn : ∀ (i : Nat) k d', e[i]? = some (some (k, d')) → k.own = true → σ[i]? ≠ some (some (.ref a))) : RepC K P B M (e ++ [some (.ow, d)]) (σ ++ [some (.ref a)]) H where
  mh := r.mh
  bm := r.bm
  ph := r.ph
  pb := r.pb
  len := by simp [r.len]
  fz := fun i d' q => by
    rcases app_get q with ⟨_, q⟩ | ⟨hi, q⟩
    · obtain ⟨w, s, t⟩ := r.fz i d' q; exact ⟨w, app_l s, t⟩
    · cases q
  sc := fun i d' q => by
    rcases app_get q with ⟨_, q⟩ | ⟨hi, q⟩
    · obtain ⟨w, n, s, t⟩ := r.sc i d' q; exact ⟨w, n, app_l s, t⟩
    · cases q
  ow := fun i k d' q hk => by
    rcases app_get q with ⟨_, q⟩ | ⟨hi, q⟩
    · obtain ⟨w, s, t⟩ := r.ow i k d' q hk; exact ⟨w, app_l s, t⟩
    · cases q; subst hi; rw [r.len]; exact ⟨a, app_last, h, hm, hp⟩
  inj := fun i j b k k' d1 d2 q hk q' hk' s s' => by
    rcases app_get q with ⟨hi, q⟩ | ⟨hi, q⟩
    · rw [List.getElem?_append_left (by rw [← r.len]; exact hi)] at s
      rcases app_get q' with ⟨hj, q'⟩ | ⟨hj, q'⟩
      · rw [List.getElem?_append_left (by rw [← r.len]; exact hj)] at s'
        exact r.inj i j b k k' d1 d2 q hk q' hk' s s'
      · subst hj; rw [r.len, app_last] at s'; cases s'
        exact absurd s (hn i k d1 q hk)
    · subst hi; rw [r.len, app_last] at s; cases s
      rcases app_get q' with ⟨hj, q'⟩ | ⟨hj, q'⟩
      · rw [List.getElem?_append_left (by rw [← r.len]; exact hj)] at s'
        exact absurd s' (hn j k' d2 q' hk')
      · omega
theorem RepC.pop {x : Slot} {y : Option V} (r : RepC K P B M (e ++ [x]) (σ ++ [y]) H) : RepC K P B M e σ H where
  mh := r.mh
  bm := r.bm
  ph := r.ph
  pb := r.pb
  len := by have := r.len; simpa using this
  fz := fun i d' q => by
    have hl : e.length = σ.length := by have := r.len; simpa using this
    have hi := (List.getElem?_eq_some_iff.mp q).1
    obtain ⟨w, s, t⟩ := r.fz i d' (app_l q)
    rw [List.getElem?_append_left (by omega)] at s
    exact ⟨w, s, t⟩
  sc := fun i d' q => by
    have hl : e.length = σ.length := by have := r.len; simpa using this
    have hi := (List.getElem?_eq_some_iff.mp q).1
    obtain ⟨w, n, s, t⟩ := r.sc i d' (app_l q)
    rw [List.getElem?_append_left (by omega)] at s
    exact ⟨w, n, s, t⟩
  ow := fun i k d' q hk => by
    have hl : e.length = σ.length := by have := r.len; simpa using this
    have hi := (List.getElem?_eq_some_iff.mp q).1
    obtain ⟨w, s, t⟩ := r.ow i k d' (app_l q) hk
    rw [List.getElem?_append_left (by omega)] at s
    exact ⟨w, s, t⟩
  inj := fun i j b k k' d1 d2 q hk q' hk' s s' => r.inj i j b k k' d1 d2 (app_l q) hk (app_l q') hk' (app_l s) (app_l s')
/-- slots may be forgotten -/
theorem RepC.forget {e' : DEnv} (r : RepC K P B M e σ H) (hl : e'.length = e.length) (h : ∀ (i : Nat) x, e'[i]? = some (some x) → e[i]? = some (some x)) : RepC K P B M e' σ H where
  mh := r.mh
  bm := r.bm
  ph := r.ph
  pb := r.pb
  len := hl.trans r.len
  fz := fun i d q => r.fz i d (h i _ q)
  sc := fun i d q => r.sc i d (h i _ q)
  ow := fun i k d q hk => r.ow i k d (h i _ q) hk
  inj := fun i j b k k' d1 d2 q hk q' hk' s s' => r.inj i j b k k' d1 d2 (h i _ q) hk (h j _ q') hk' s s'
/-- .. and the values of forgotten slots may be any -/
theorem RepC.forget2 {e' : DEnv} {σ' : L2.St} (r : RepC K P B M e σ H) (hl : e'.length = e.length) (hs : σ'.length = σ.length) (h : ∀ (i : Nat) x, e'[i]? = some (some x) → e[i]? = some (some x) ∧ σ'[i]? = σ[i]?) : RepC K P B M e' σ' H where
  mh := r.mh
  bm := r.bm
  ph := r.ph
  pb := r.pb
  len := by rw [hl, hs]; exact r.len
  fz := fun i d q => by rw [(h i _ q).2]; exact r.fz i d (h i _ q).1
  sc := fun i d q => by rw [(h i _ q).2]; exact r.sc i d (h i _ q).1
  ow := fun i k d q hk => by rw [(h i _ q).2]; exact r.ow i k d (h i _ q).1 hk
  inj := fun i j b k k' d1 d2 q hk q' hk' s s' => r.inj i j b k k' d1 d2 (h i _ q).1 hk (h j _ q').1 hk' (by rw [← (h i _ q).2]; exact s) (by rw [← (h j _ q').2]; exact s')
/-- a new object is laid, nobody's yet -/
theorem RepC.alloc {p : Addr} {o : HO} (r : RepC K P B M e σ H) (hp : H p = none) : RepC K P B M e σ (upd H p o) where
  mh := r.mh.updM (r.mh.none hp)
  bm := r.bm
  ph := r.ph.updM (r.ph.none hp)
  pb := r.pb
  len := r.len
  fz := r.fz
  sc := r.sc
  ow := fun i k d q hk => by
    obtain ⟨a, s, t, u⟩ := r.ow i k d q hk
    refine ⟨a, s, t.step (Ex.refl _) fun o' ho => ?_, u⟩
    rw [upd_ne (ne_of_none ho hp)]; exact ho
  inj := r.inj
/-- an object that is nobody's is frozen -/
theorem RepC.grow {p : Addr} {o : HO} (r : RepC K P B M e σ H) (hp : H p = some o) (hP : P p = none) (hn : ∀ (i : Nat) k d', e[i]? = some (some (k, d')) → k.own = true → σ[i]? ≠ some (some (.ref p))) (hM : M p = none) : RepC K P B (upd M p o) e σ H where
  mh := fun a u q => by
    by_cases h : a = p
    · subst h; rw [upd_same] at q; cases q; exact hp
    · rw [upd_ne h] at q; exact r.mh a u q
  bm := r.bm.trans (Ex.updN hM)
  ph := r.ph
  pb := fun a h1 h2 => by
    by_cases h : a = p
    · subst h; exact absurd hP h1
    · rw [upd_ne h] at h2 ⊢; exact r.pb a h1 h2
  len := r.len
  fz := fun i d q => by
    obtain ⟨w, s, t⟩ := r.fz i d q; exact ⟨w, s, t.mono (Ex.updN hM)⟩
  sc := fun i d q => by
    obtain ⟨w, n, s, t, u⟩ := r.sc i d q; exact ⟨w, n, s, (Ex.updN hM).l t, u⟩
  ow := fun i k d q hk => by
    obtain ⟨a, s, t, u, w⟩ := r.ow i k d q hk
    refine ⟨a, s, t.step (Ex.updN hM) fun _ ho => ho, ?_, w⟩
    exact u.imp (fun u => by rw [upd_ne (fun z => hn i k d q hk (by rw [← z]; exact s))]; exact u) id
  inj := r.inj
/-- all tuples there are may count as frozen -/
def addT (M H : Hp) : Hp := fun a => match H a with
  | some (.tup vs) => some (.tup vs)
  | _ => M a
theorem addT_tup {M H : Hp} {a : Addr} {vs : List V} (h : H a = some (.tup vs)) : addT M H a = some (.tup vs) := by unfold addT; rw [h]
theorem addT_ne {M H : Hp} {a : Addr} (h : ∀ vs, H a ≠ some (.tup vs)) : addT M H a = M a := by
  unfold addT
  split
  · rename_i vs q; exact absurd q (h vs)
  · rfl
theorem Ex.addT {M H : Hp} (e : Ex M H) : Ex M (addT M H) := fun a u q => by
  by_cases h : ∃ vs, H a = some (.tup vs)
  · obtain ⟨vs, h⟩ := h
    have := e a u q
    rw [h] at this; cases this
    exact addT_tup h
  · rw [addT_ne fun vs z => h ⟨vs, z⟩]; exact q
theorem RepC.tups (r : RepC K P B M e σ H) : RepC K P B (addT M H) e σ H where
  mh := fun a u q => by
    by_cases h : ∃ vs, H a = some (.tup vs)
    · obtain ⟨vs, h⟩ := h
      rw [addT_tup h] at q; cases q; exact h
    · rw [addT_ne fun vs z => h ⟨vs, z⟩] at q; exact r.mh a u q
  bm := r.bm.trans r.mh.addT
  ph := r.ph
  pb := fun a h1 h2 => by
    by_cases h : ∃ vs, H a = some (.tup vs)
    · obtain ⟨vs, h⟩ := h
      exact .inr ⟨vs, addT_tup h⟩
    · rw [addT_ne fun vs z => h ⟨vs, z⟩] at h2 ⊢; exact r.pb a h1 h2
  len := r.len
  fz := fun i d q => by
    obtain ⟨w, s, t⟩ := r.fz i d q; exact ⟨w, s, t.mono r.mh.addT⟩
  sc := fun i d q => by
    obtain ⟨w, n, s, t, u⟩ := r.sc i d q; exact ⟨w, n, s, r.mh.addT.l t, u⟩
  ow := fun i k d q hk => by
    obtain ⟨a, s, t, u, w⟩ := r.ow i k d q hk
    refine ⟨a, s, t.step r.mh.addT fun _ ho => ho, ?_, w⟩
    refine u.imp (fun u => ?_) id |>.elim (fun z => z) .inr
    have : ∀ x : NM (addT M H) a d, NM (addT M H) a d := fun x => x
    by_cases h : ∃ vs, H a = some (.tup vs)
    · obtain ⟨vs, h⟩ := h
      refine .inr ?_
      cases d <;> simp only [OwnAt] at t
      · obtain ⟨_, q, _⟩ := t; rw [h] at q; cases q
      · exact ⟨_, rfl⟩
      · rcases t with ⟨_, q, _⟩ | ⟨_, q, _⟩ <;> rw [h] at q <;> cases q
    · exact .inl (by rw [addT_ne fun vs z => h ⟨vs, z⟩]; exact u)
  inj := r.inj
/-- an owned slot is frozen -/
theorem RepC.freeze {i : Nat} {k : Kd} {d : D} {a : Addr} (r : RepC K P B M e σ H) (h : e[i]? = some (some (k, d))) (hF : okF d = true) (hk : k.own = true) (hs : σ[i]? = some (some (.ref a))) :
    ∃ M', Ex M M' ∧ RepC K P B M' (e.set i (some (.fz, d))) σ H ∧ Fz K M' d (.ref a) := by
  obtain ⟨a', s, t, u, w⟩ := r.ow i k d h hk
  rw [hs] at s; cases s
  obtain ⟨o, ho⟩ := t.some
  have r1 : RepC K P B M (e.set i none) σ H := r.forget (by simp) fun j x q => by
    rw [List.getElem?_set] at q
    split at q
    · split at q <;> simp at q
    · exact q
  have hn : ∀ (j : Nat) k' d', (e.set i none)[j]? = some (some (k', d')) → k'.own = true → σ[j]? ≠ some (some (.ref a)) := fun j k' d' q hk' z => by
    rw [List.getElem?_set] at q
    split at q
    · split at q <;> simp at q
    · rename_i hij
      exact hij (r.inj i j a k k' d d' h hk q hk' hs z)
  have r3 : ∃ M', Ex M M' ∧ RepC K P B M' (e.set i none) σ H ∧ M' a = some o := by
    cases hma : M a with
    | none => exact ⟨_, Ex.updN hma, r1.grow ho w hn hma, upd_same⟩
    | some o2 =>
      have := r.mh a o2 hma
      rw [ho] at this; cases this
      exact ⟨M, Ex.refl _, r1, hma⟩
  obtain ⟨M', x, r2, hM'⟩ := r3
  have f : Fz K M' d (.ref a) := t.freeze hF x fun o' q => by rw [ho] at q; cases q; exact hM'
  refine ⟨M', x, ?_, f⟩
  have hi := (List.getElem?_eq_some_iff.mp h).1
  refine ⟨r2.mh, r2.bm, r2.ph, r2.pb, by simp [r.len], fun j d' q => ?_, fun j d' q => ?_, fun j k' d' q hk' => ?_, fun j l b k1 k2 d1 d2 q hk1 q' hk2 s s' => ?_⟩
  · rw [List.getElem?_set] at q
    split at q
    · rename_i hij
      subst hij
      (try rw [if_pos hi] at q); cases q
      exact ⟨_, hs, f⟩
    · rename_i hij
      exact r2.fz j d' (by rw [List.getElem?_set, if_neg hij]; exact q)
  · rw [List.getElem?_set] at q
    split at q
    · (try rw [if_pos hi] at q); cases q
    · rename_i hij
      exact r2.sc j d' (by rw [List.getElem?_set, if_neg hij]; exact q)
  · rw [List.getElem?_set] at q
    split at q
    · (try rw [if_pos hi] at q); cases q; exact absurd hk' (by decide)
    · rename_i hij
      exact r2.ow j k' d' (by rw [List.getElem?_set, if_neg hij]; exact q) hk'
  · rw [List.getElem?_set] at q q'
    split at q
    · (try rw [if_pos hi] at q); cases q; exact absurd hk1 (by decide)
    · split at q'
      · (try rw [if_pos hi] at q'); cases q'; exact absurd hk2 (by decide)
      · exact r.inj j l b k1 k2 d1 d2 q hk1 q' hk2 s s'
/-- an owned object is changed -/
theorem RepC.mutate {i : Nat} {k : Kd} {d d' : D} {a : Addr} {o : HO} (r : RepC K P B M e σ H) (h : e[i]? = some (some (k, d))) (hk : k.own = true) (hs : σ[i]? = some (some (.ref a))) (hM : M a = none)
    (h' : OwnAt K M (upd H a o) d' a) : RepC K P B M (e.set i (some (k, d'))) σ (upd H a o) := by
  obtain ⟨a', s, t, u, w⟩ := r.ow i k d h hk
  rw [hs] at s; cases s
  have hi := (List.getElem?_eq_some_iff.mp h).1
  refine ⟨r.mh.updM hM, r.bm, r.ph.updM w, r.pb, by simp [r.len], fun j d1 q => ?_, fun j d1 q => ?_, fun j k1 d1 q hk1 => ?_, fun j l b k1 k2 d1 d2 q hk1 q' hk2 s s' => ?_⟩
  · rw [List.getElem?_set] at q
    split at q
    · (try rw [if_pos hi] at q); cases q; exact absurd hk (by decide)
    · exact r.fz j d1 q
  · rw [List.getElem?_set] at q
    split at q
    · (try rw [if_pos hi] at q); cases q; exact absurd hk (by decide)
    · exact r.sc j d1 q
  · rw [List.getElem?_set] at q
    split at q
    · rename_i hij; subst hij
      (try rw [if_pos hi] at q); cases q
      exact ⟨a, hs, h', .inl hM, w⟩
    · rename_i hij
      obtain ⟨b, s1, t1, u1, w1⟩ := r.ow j k1 d1 q hk1
      refine ⟨b, s1, t1.step (Ex.refl _) fun o' ho => ?_, u1, w1⟩
      rw [upd_ne (fun z => hij (r.inj i j a k k1 d d1 h hk q hk1 hs (by rw [← z]; exact s1)))]; exact ho
  · have q1 : ∃ k3 d3, e[j]? = some (some (k3, d3)) ∧ k3.own = true := by
      rw [List.getElem?_set] at q
      split at q
      · rename_i hij; subst hij; exact ⟨k, d, h, hk⟩
      · exact ⟨k1, d1, q, hk1⟩
    have q2 : ∃ k3 d3, e[l]? = some (some (k3, d3)) ∧ k3.own = true := by
      rw [List.getElem?_set] at q'
      split at q'
      · rename_i hij; subst hij; exact ⟨k, d, h, hk⟩
      · exact ⟨k2, d2, q', hk2⟩
    obtain ⟨k3, d3, z1, z2⟩ := q1
    obtain ⟨k4, d4, z3, z4⟩ := q2
    exact r.inj j l b k3 k4 d3 d4 z1 z2 z3 z4 s s'
/-- a slot gets a value -/
theorem RepC.set_fz {i : Nat} {d : D} {v : V} (r : RepC K P B M e σ H) (h : Fz K M d v) : RepC K P B M (e.set i (some (.fz, d))) (σ.set i (some v)) H := by
  refine ⟨r.mh, r.bm, r.ph, r.pb, by simp [r.len], fun j d' q => ?_, fun j d' q => ?_, fun j k' d' q hk' => ?_, fun j l b k1 k2 d1 d2 q hk1 q' hk2 s s' => ?_⟩
  · rw [List.getElem?_set] at q ⊢
    split at q
    · rename_i hij; subst hij
      rw [if_pos rfl, ← r.len]
      split at q
      · rename_i hi; cases q; rw [if_pos hi]; exact ⟨v, rfl, h⟩
      · cases q
    · rename_i hij; rw [if_neg hij]; exact r.fz j d' q
  · rw [List.getElem?_set] at q ⊢
    split at q
    · split at q <;> cases q
    · rename_i hij; rw [if_neg hij]; exact r.sc j d' q
  · rw [List.getElem?_set] at q ⊢
    split at q
    · split at q
      · cases q; exact absurd hk' (by decide)
      · cases q
    · rename_i hij; rw [if_neg hij]; exact r.ow j k' d' q hk'
  · rw [List.getElem?_set] at q q' s s'
    split at q
    · split at q
      · cases q; exact absurd hk1 (by decide)
      · cases q
    · rename_i hij
      split at q'
      · split at q'
        · cases q'; exact absurd hk2 (by decide)
        · cases q'
      · rename_i hil
        rw [if_neg hij] at s
        rw [if_neg hil] at s'
        exact r.inj j l b k1 k2 d1 d2 q hk1 q' hk2 s s'
theorem RepC.set_ow {i : Nat} {d : D} {a : Addr} (r : RepC K P B M e σ H) (h : OwnAt K M H d a) (hm : NM M a d) (hp : P a = none)
    (hn : ∀ (j : Nat) k d', e[j]? = some (some (k, d')) → k.own = true → σ[j]? ≠ some (some (.ref a))) : RepC K P B M (e.set i (some (.ow, d))) (σ.set i (some (.ref a))) H := by
  refine ⟨r.mh, r.bm, r.ph, r.pb, by simp [r.len], fun j d' q => ?_, fun j d' q => ?_, fun j k' d' q hk' => ?_, fun j l b k1 k2 d1 d2 q hk1 q' hk2 s s' => ?_⟩
  · rw [List.getElem?_set] at q ⊢
    split at q
    · split at q <;> cases q
    · rename_i hij; rw [if_neg hij]; exact r.fz j d' q
  · rw [List.getElem?_set] at q ⊢
    split at q
    · split at q <;> cases q
    · rename_i hij; rw [if_neg hij]; exact r.sc j d' q
  · rw [List.getElem?_set] at q ⊢
    split at q
    · rename_i hij; subst hij
      split at q
      · rename_i hi; cases q
        rw [if_pos rfl, ← r.len, if_pos hi]; exact ⟨a, rfl, h, hm, hp⟩
      · cases q
    · rename_i hij; rw [if_neg hij]; exact r.ow j k' d' q hk'
  · rw [List.getElem?_set] at q q' s s'
    split at q
    · rename_i hij; subst hij
      split at q'
      · rename_i hil; exact hil
      · rename_i hil
        rw [if_neg hil] at s'
        rw [if_pos rfl, ← r.len] at s
        split at s
        · cases s; exact absurd s' (hn l k2 d2 q' hk2)
        · cases s
    · rename_i hij
      rw [if_neg hij] at s
      split at q'
      · rename_i hil; subst hil
        rw [if_pos rfl, ← r.len] at s'
        split at s'
        · cases s'; exact absurd s (hn j k1 d1 q hk1)
        · cases s'
      · rename_i hil
        rw [if_neg hil] at s'
        exact r.inj j l b k1 k2 d1 d2 q hk1 q' hk2 s s'
end
end PL
set_option Elab.async false
set_option linter.all false
set_option autoImplicit false
set_option maxRecDepth 100000
set_option maxHeartbeats 4000000
/-! PLb: temps, the store with its temps, expressions' readings over data; names, constants, displays, operators, comparisons, tests. -/
namespace PL
open PySem PySem.Spec PyProof.Rows L2

abbrev Tmp := List (Res × V)
def tS : Res → Slot
  | .fz d => some (.fz, d)
  | .ow d => some (.ow, d)
  | .loc _ => none
  | .junk => none
def tE (T : Tmp) : DEnv := T.map fun t => tS t.1
def tV (T : Tmp) : L2.St := T.map fun t => some t.2
theorem tE_app (T T' : Tmp) : tE (T ++ T') = tE T ++ tE T' := List.map_append
theorem tV_app (T T' : Tmp) : tV (T ++ T') = tV T ++ tV T' := List.map_append
theorem tE_len (T : Tmp) : (tE T).length = T.length := List.length_map ..
theorem tV_len (T : Tmp) : (tV T).length = T.length := List.length_map ..

/-- part of a store, told by a map of places -/
theorem RepC.sub {K : PySem.W.Frag} {P B M : Hp} {e e' : DEnv} {σ σ' : L2.St} {H : Hp} (r : RepC K P B M e σ H) (f : Nat → Nat) (hl : e'.length = σ'.length) (hf : ∀ (i j : Nat) x y, e'[i]? = some (some x) → e'[j]? = some (some y) → f i = f j → i = j)
    (h : ∀ (i : Nat) x, e'[i]? = some (some x) → e[f i]? = some (some x) ∧ σ'[i]? = σ[f i]?) : RepC K P B M e' σ' H where
  mh := r.mh
  bm := r.bm
  ph := r.ph
  pb := r.pb
  len := hl
  fz := fun i d q => by rw [(h i _ q).2]; exact r.fz _ d (h i _ q).1
  sc := fun i d q => by rw [(h i _ q).2]; exact r.sc _ d (h i _ q).1
  ow := fun i k d q hk => by rw [(h i _ q).2]; exact r.ow _ k d (h i _ q).1 hk
  inj := fun i j b k k' d1 d2 q hk q' hk' s s' => hf _ _ _ _ q q' (r.inj _ _ b k k' d1 d2 (h i _ q).1 hk (h j _ q').1 hk' (by rw [← (h i _ q).2]; exact s) (by rw [← (h j _ q').2]; exact s'))

structure RepM (K : PySem.W.Frag) (P B M : Hp) (ios : List (Nat × V)) (e : DEnv) (σ : L2.St) (T : Tmp) (H : Hp) : Prop where
  c : RepC K P B M (e ++ tE T) (σ ++ tV T) H
  el : e.length = σ.length
  loc : ∀ i v, (Res.loc i, v) ∈ T → σ[i]? = some (some v)
  io : ∀ i v, (i, v) ∈ ios → σ[i]? = some (some v) ∧ ∃ d, e[i]? = some (some (.io, d))
def Rep (K : PySem.W.Frag) (P B : Hp) (ios : List (Nat × V)) (e : DEnv) (σ : L2.St) (T : Tmp) (H : Hp) : Prop := ∃ M, RepM K P B M ios e σ T H

section
variable {K : PySem.W.Frag} {P B M : Hp} {ios : List (Nat × V)} {e : DEnv} {σ : L2.St} {T T1 T2 T3 : Tmp} {H : Hp}
theorem get_mid {α : Type} {l1 l2 l3 : List α} {i : Nat} : (l1 ++ l3)[i]? = (l1 ++ l2 ++ l3)[if i < l1.length then i else i + l2.length]? := by
  by_cases h : i < l1.length
  · rw [if_pos h, List.getElem?_append_left h, List.getElem?_append_left (by rw [List.length_append]; omega), List.getElem?_append_left h]
  · rw [if_neg h, List.getElem?_append_right (by omega), List.getElem?_append_right (by rw [List.length_append]; omega), List.length_append]
    congr 1
    omega
theorem set_same {α : Type} {l : List α} {n : Nat} {x : α} (h : l[n]? = some x) : l.set n x = l := by
  apply List.ext_getElem?
  intro j
  rw [List.getElem?_set]
  split
  · rename_i hj
    subst hj
    rw [h, if_pos (List.getElem?_eq_some_iff.mp h).1]
  · rfl
theorem RepM.mid (r : RepM K P B M ios e σ (T1 ++ T2 ++ T3) H) : RepM K P B M ios e σ (T1 ++ T3) H := by
  have hc := r.c
  rw [tE_app, tE_app, tV_app, tV_app, ← List.append_assoc, ← List.append_assoc, ← List.append_assoc, ← List.append_assoc] at hc
  refine ⟨?_, r.el, fun i v h => r.loc i v ?_, r.io⟩
  · rw [tE_app, tV_app, ← List.append_assoc, ← List.append_assoc]
    have hl : (e ++ tE T1).length = (σ ++ tV T1).length := by rw [List.length_append, List.length_append, tE_len, tV_len, r.el]
    have hl2 : (tE T2).length = (tV T2).length := by rw [tE_len, tV_len]
    refine hc.sub (fun i => if i < (e ++ tE T1).length then i else i + (tE T2).length) ?_ ?_ ?_
    · simp only [List.length_append, tE_len, tV_len, r.el]
    · intro i j _ _ _ _ h
      by_cases hi : i < (e ++ tE T1).length <;> by_cases hj : j < (e ++ tE T1).length <;> simp only [hi, hj, if_true, if_false] at h <;> omega
    · intro i x q
      rw [get_mid (l2 := tE T2)] at q
      refine ⟨q, ?_⟩
      rw [get_mid (l2 := tV T2), hl, hl2]
  · rcases List.mem_append.mp h with h | h
    · exact List.mem_append_left _ (List.mem_append_left _ h)
    · exact List.mem_append_right _ h
theorem RepM.popN (r : RepM K P B M ios e σ (T ++ T2) H) : RepM K P B M ios e σ T H := by
  have := RepM.mid (T1 := T) (T2 := T2) (T3 := []) (by simpa using r)
  simpa using this
theorem Rep.mid (r : Rep K P B ios e σ (T1 ++ T2 ++ T3) H) : Rep K P B ios e σ (T1 ++ T3) H := let ⟨M, h⟩ := r; ⟨M, h.mid⟩
theorem Rep.popN (r : Rep K P B ios e σ (T ++ T2) H) : Rep K P B ios e σ T H := let ⟨M, h⟩ := r; ⟨M, h.popN⟩
theorem RepM.mh (r : RepM K P B M ios e σ T H) : Ex M H := r.c.mh
theorem left_get {α : Type} {l m : List α} {i : Nat} {x : α} (h : l[i]? = some x) : (l ++ m)[i]? = some x := by
  rw [List.getElem?_append_left (List.getElem?_eq_some_iff.mp h).1]; exact h
theorem RepM.sl (r : RepM K P B M ios e σ T H) {i : Nat} {x : Slot} (h : e[i]? = some x) : (σ ++ tV T)[i]? = σ[i]? := by
  rw [List.getElem?_append_left (by rw [← r.el]; exact (List.getElem?_eq_some_iff.mp h).1)]
theorem RepM.fzS (r : RepM K P B M ios e σ T H) {i : Nat} {d : D} (h : e[i]? = some (some (.fz, d))) : ∃ v, σ[i]? = some (some v) ∧ Fz K M d v := by
  have := r.c.fz i d (left_get h)
  rwa [r.sl h] at this
theorem RepM.owS (r : RepM K P B M ios e σ T H) {i : Nat} {k : Kd} {d : D} (h : e[i]? = some (some (k, d))) (hk : k.own = true) : ∃ a, σ[i]? = some (some (.ref a)) ∧ OwnAt K M H d a ∧ NM M a d ∧ P a = none := by
  have := r.c.ow i k d (left_get h) hk
  rwa [r.sl h] at this
theorem RepM.scS (r : RepM K P B M ios e σ T H) {i : Nat} {d : D} (h : e[i]? = some (some (.sc, d))) : ∃ (a : Addr) (ns : List Int), σ[i]? = some (some (.ref a)) ∧ SqL K M a (ns.map V.int) ∧ d = .list (ns.map PyData.int) := by
  have := r.c.sc i d (left_get h)
  rwa [r.sl h] at this
theorem RepM.tget (r : RepM K P B M ios e σ T H) {j : Nat} {t : Res × V} (h : T[j]? = some t) : (e ++ tE T)[e.length + j]? = some (tS t.1) ∧ (σ ++ tV T)[e.length + j]? = some (some t.2) := by
  constructor
  · rw [List.getElem?_append_right (by omega)]
    have : e.length + j - e.length = j := by omega
    rw [this, tE, List.getElem?_map, h]; rfl
  · rw [r.el, List.getElem?_append_right (by omega)]
    have : σ.length + j - σ.length = j := by omega
    rw [this, tV, List.getElem?_map, h]; rfl
theorem RepM.tfz (r : RepM K P B M ios e σ T H) {d : D} {v : V} (h : (Res.fz d, v) ∈ T) : Fz K M d v := by
  obtain ⟨j, hj⟩ := List.getElem?_of_mem h
  obtain ⟨h1, h2⟩ := r.tget hj
  obtain ⟨w, q, f⟩ := r.c.fz _ d h1
  rw [h2] at q; cases q; exact f
theorem RepM.tow (r : RepM K P B M ios e σ T H) {d : D} {v : V} (h : (Res.ow d, v) ∈ T) : ∃ a, v = .ref a ∧ OwnAt K M H d a ∧ NM M a d ∧ P a = none := by
  obtain ⟨j, hj⟩ := List.getElem?_of_mem h
  obtain ⟨h1, h2⟩ := r.tget hj
  obtain ⟨a, q, f⟩ := r.c.ow _ .ow d h1 rfl
  rw [h2] at q; cases q; exact ⟨a, rfl, f⟩

/-- what a result is, as the slots stand -/
def look (e : DEnv) : Res → Option D
  | .fz d => some d
  | .ow d => nt d
  | .loc i => match e[i]? with
    | some (some (.fz, d)) => some d
    | some (some (.ow, d)) => nt d
    | some (some (.io, d)) => nt d
    | _ => none
  | .junk => none
theorem RepM.view (r : RepM K P B M ios e σ T H) {x : Res} {v : V} {d : D} (h : (x, v) ∈ T) (hl : look e x = some d) : Vw K M H d v := by
  cases x with
  | fz d' => cases hl; exact (r.tfz h).vw r.mh
  | ow d' =>
    obtain ⟨rfl, ht⟩ := nt_some (show nt d' = some d from hl)
    obtain ⟨a, rfl, o, _⟩ := r.tow h; exact o.vw ht
  | loc i =>
    have hs := r.loc i v h
    unfold look at hl
    dsimp only at hl
    split at hl
    · rename_i d' q; cases hl
      obtain ⟨w, s, f⟩ := r.fzS q
      rw [hs] at s; cases s; exact f.vw r.mh
    · rename_i d' q; obtain ⟨rfl, ht⟩ := nt_some hl
      obtain ⟨a, s, f, _⟩ := r.owS q rfl
      rw [hs] at s; cases s; exact f.vw ht
    · rename_i d' q; obtain ⟨rfl, ht⟩ := nt_some hl
      obtain ⟨a, s, f, _⟩ := r.owS q rfl
      rw [hs] at s; cases s; exact f.vw ht
    · cases hl
  | junk => cases hl

/-- a tuple that is unpacked: it may be an own one -/
def unp (e : DEnv) : Res → Option (List D)
  | .fz (.tuple ds) => some ds
  | .ow (.tuple ds) => some ds
  | .loc i => match e[i]? with
    | some (some (.fz, .tuple ds)) => some ds
    | some (some (.ow, .tuple ds)) => some ds
    | _ => none
  | _ => none
theorem RepM.unpack (r : RepM K P B M ios e σ T H) {x : Res} {v : V} {ds : List D} (h : (x, v) ∈ T) (hl : unp e x = some ds) : ∃ a vs, v = .ref a ∧ SqT K H a vs ∧ FzL K M ds vs := by
  have one : ∀ {w : V}, Fz K M (.tuple ds) w → ∃ a vs, w = .ref a ∧ SqT K H a vs ∧ FzL K M ds vs := fun f => by
    simp only [Fz] at f
    obtain ⟨a, vs, rfl, s, f⟩ := f
    exact ⟨a, vs, rfl, r.mh.t s, f⟩
  cases x with
  | fz d => cases d <;> first | (cases hl; done) | (cases hl; exact one (r.tfz h))
  | ow d => cases d <;> first | (cases hl; done) | (cases hl; obtain ⟨a, rfl, ⟨vs, q, f⟩, _⟩ := r.tow h; exact ⟨a, vs, rfl, .inl (.inl q), f⟩)
  | loc i =>
    have hs := r.loc i v h
    unfold unp at hl
    dsimp only at hl
    split at hl
    · rename_i ds' q; cases hl
      obtain ⟨w, s, f⟩ := r.fzS q
      rw [hs] at s; cases s; exact one f
    · rename_i ds' q; cases hl
      obtain ⟨a, s, ⟨vs, q', f⟩, _⟩ := r.owS q rfl
      rw [hs] at s; cases s
      exact ⟨a, vs, rfl, .inl (.inl q'), f⟩
    · cases hl
  | junk => cases hl
/-! ### pushing temps -/
theorem RepM.push_fz (r : RepM K P B M ios e σ T H) {d : D} {v : V} (h : Fz K M d v) : RepM K P B M ios e σ (T ++ [(.fz d, v)]) H where
  c := by
    rw [tE_app, tV_app, ← List.append_assoc, ← List.append_assoc]
    exact r.c.push_fz h
  el := r.el
  loc := fun i w q => by
    rcases List.mem_append.mp q with q | q
    · exact r.loc i w q
    · simp at q
  io := r.io
theorem RepM.push_loc (r : RepM K P B M ios e σ T H) {i : Nat} {v : V} (h : σ[i]? = some (some v)) : RepM K P B M ios e σ (T ++ [(.loc i, v)]) H where
  c := by
    rw [tE_app, tV_app, ← List.append_assoc, ← List.append_assoc]
    exact r.c.push_none
  el := r.el
  loc := fun j w q => by
    rcases List.mem_append.mp q with q | q
    · exact r.loc j w q
    · simp at q; obtain ⟨rfl, rfl⟩ := q; exact h
  io := r.io
theorem RepM.push_ow (r : RepM K P B M ios e σ T H) {d : D} {a : Addr} (h : OwnAt K M H d a) (hm : NM M a d) (hp : P a = none)
    (hn : ∀ (i : Nat) k d', (e ++ tE T)[i]? = some (some (k, d')) → k.own = true → (σ ++ tV T)[i]? ≠ some (some (.ref a))) : RepM K P B M ios e σ (T ++ [(.ow d, .ref a)]) H where
  c := by
    rw [tE_app, tV_app, ← List.append_assoc, ← List.append_assoc]
    exact r.c.push_ow h hm hp hn
  el := r.el
  loc := fun i w q => by
    rcases List.mem_append.mp q with q | q
    · exact r.loc i w q
    · simp at q
  io := r.io
theorem RepM.alloc (r : RepM K P B M ios e σ T H) {p : Addr} {o : HO} (h : H p = none) : RepM K P B M ios e σ T (upd H p o) := ⟨r.c.alloc h, r.el, r.loc, r.io⟩

/-! ### freezing -/
def fzO (d : D) (e : DEnv) : Option (D × DEnv) := if okF d = true then some (d, e) else none
theorem fzO_some {d d' : D} {e e' : DEnv} (h : fzO d e = some (d', e')) : okF d = true ∧ d = d' ∧ e = e' := by
  unfold fzO at h
  split at h
  · cases h; exact ⟨by assumption, rfl, rfl⟩
  · cases h
def frz (e : DEnv) : Res → Option (D × DEnv)
  | .fz d => some (d, e)
  | .ow d => fzO d e
  | .loc i => match e[i]? with
    | some (some (.fz, d)) => some (d, e)
    | some (some (.ow, d)) => fzO d (e.set i (some (.fz, d)))
    | _ => none
  | .junk => none
def frzAll : DEnv → List Res → Option (List D × DEnv)
  | e, [] => some ([], e)
  | e, r :: rs => match frz e r with
    | some (d, e1) => match frzAll e1 rs with
      | some (ds, e2) => some (d :: ds, e2)
      | none => none
    | none => none
theorem set_left {α : Type} {l m : List α} {i : Nat} {x : α} (h : i < l.length) : (l ++ m).set i x = l.set i x ++ m := by
  rw [List.set_append, if_pos h]
theorem set_midd {α : Type} {l m : List α} {x y : α} {n : Nat} (hn : n = l.length) : (l ++ x :: m).set n y = l ++ y :: m := by
  subst hn
  rw [List.set_append, if_neg (by omega)]
  simp
theorem mem_mid {α : Type} {l m : List α} {x y z : α} (h : z ∈ l ++ y :: m) (hne : z ≠ y) : z ∈ l ++ x :: m := by
  rcases List.mem_append.mp h with h | h
  · exact List.mem_append_left _ h
  · rcases List.mem_cons.mp h with h | h
    · exact absurd h hne
    · exact List.mem_append_right _ (List.mem_cons_of_mem _ h)
theorem RepM.freezeAt {x : Res} {v : V} {d : D} {e' : DEnv} (r : RepM K P B M ios e σ (T1 ++ (x, v) :: T2) H) (hf : frz e x = some (d, e')) :
    ∃ M', Ex M M' ∧ RepM K P B M' ios e' σ (T1 ++ (.fz d, v) :: T2) H ∧ Fz K M' d v := by
  have hT : (T1 ++ (x, v) :: T2)[T1.length]? = some (x, v) := by simp
  have hE : ∀ (y : Slot), (e ++ tE (T1 ++ (x, v) :: T2)).set (e.length + T1.length) y = e ++ (tE T1 ++ y :: tE T2) := fun y => by
    rw [tE_app, ← List.append_assoc]
    show ((e ++ tE T1) ++ tS x :: tE T2).set _ _ = _
    rw [set_midd (by simp [tE_len]), List.append_assoc]
  have hE2 : e ++ tE (T1 ++ (.fz d, v) :: T2) = e ++ (tE T1 ++ some (.fz, d) :: tE T2) := by rw [tE_app]; rfl
  have hV : ∀ (z : Res), tV (T1 ++ (z, v) :: T2) = tV (T1 ++ (x, v) :: T2) := fun z => by rw [tV_app, tV_app]; rfl
  have hloc : ∀ i w, (Res.loc i, w) ∈ T1 ++ (.fz d, v) :: T2 → σ[i]? = some (some w) := fun i w q => r.loc i w (mem_mid q (by intro z; cases z))
  cases x with
  | fz d' => cases hf; exact ⟨M, Ex.refl _, r, r.tfz (List.mem_of_getElem? hT)⟩
  | ow d' =>
    obtain ⟨hF, rfl, rfl⟩ := fzO_some (show fzO d' e = some (d, e') from hf)
    obtain ⟨h1, h2⟩ := r.tget hT
    obtain ⟨a, rfl, o, _, _⟩ := r.tow (List.mem_of_getElem? hT)
    obtain ⟨M', ex, r', f⟩ := r.c.freeze h1 hF rfl h2
    refine ⟨M', ex, ⟨?_, r.el, hloc, r.io⟩, f⟩
    rw [hE2, hV, ← hE]
    exact r'
  | loc i =>
    have hs := r.loc i v (List.mem_of_getElem? hT)
    obtain ⟨h1, h2⟩ := r.tget hT
    unfold frz at hf
    dsimp only at hf
    split at hf
    · rename_i d' q; cases hf
      obtain ⟨w, s, f⟩ := r.fzS q
      rw [hs] at s; cases s
      refine ⟨M, Ex.refl _, ⟨?_, r.el, hloc, r.io⟩, f⟩
      have := r.c.set_fz (i := e.length + T1.length) f
      rw [hE] at this
      rw [hE2, hV]
      have e2 : (σ ++ tV (T1 ++ (Res.loc i, v) :: T2)).set (e.length + T1.length) (some v) = σ ++ tV (T1 ++ (Res.loc i, v) :: T2) := set_same h2
      rw [e2] at this
      exact this
    · rename_i d' q
      obtain ⟨hF, rfl, rfl⟩ := fzO_some hf
      have hi := (List.getElem?_eq_some_iff.mp q).1
      obtain ⟨a, s, o, _, _⟩ := r.owS q rfl
      rw [hs] at s; cases s
      obtain ⟨M', ex, r', f⟩ := r.c.freeze (left_get q) hF rfl (by rw [r.sl q]; exact hs)
      rw [set_left hi] at r'
      have r2 := r'.set_fz (i := e.length + T1.length) f
      have e2 : (σ ++ tV (T1 ++ (Res.loc i, V.ref a) :: T2)).set (e.length + T1.length) (some (V.ref a)) = σ ++ tV (T1 ++ (Res.loc i, V.ref a) :: T2) := set_same h2
      have e3 : (e.set i (some (Kd.fz, d')) ++ tE (T1 ++ (Res.loc i, V.ref a) :: T2)).set (e.length + T1.length) (some (Kd.fz, d')) = e.set i (some (Kd.fz, d')) ++ tE (T1 ++ (Res.fz d', V.ref a) :: T2) := by
        rw [tE_app, tE_app, ← List.append_assoc, ← List.append_assoc]
        show ((e.set i (some (Kd.fz, d')) ++ tE T1) ++ tS (.loc i) :: tE T2).set _ _ = _
        rw [set_midd (by simp [tE_len])]
        rfl
      rw [e2, e3] at r2
      refine ⟨M', ex, ⟨?_, by simp [r.el], hloc, fun j w q' => ?_⟩, f⟩
      · rw [hV]; exact r2
      · obtain ⟨s', d'', q''⟩ := r.io j w q'
        refine ⟨s', d'', ?_⟩
        rw [List.getElem?_set]
        split
        · rename_i hij; subst hij; rw [q] at q''; cases q''
        · exact q''
    · cases hf
  | junk => cases hf
theorem RepM.freezeAll : ∀ {rs : List Res} {vs : List V} {T : Tmp} {M : Hp} {e e' : DEnv} {ds : List D}, RepM K P B M ios e σ (T ++ rs.zip vs) H → rs.length = vs.length → frzAll e rs = some (ds, e') →
    ∃ M', Ex M M' ∧ RepM K P B M' ios e' σ (T ++ (ds.map Res.fz).zip vs) H ∧ FzL K M' ds vs
  | [], [], T, M, e, e', ds, r, _, hf => by cases hf; exact ⟨M, Ex.refl _, r, .nil⟩
  | x :: rs, v :: vs, T, M, e, e', ds, r, hl, hf => by
    unfold frzAll at hf
    split at hf
    · rename_i d e1 h1
      split at hf
      · rename_i ds2 e2 h2
        cases hf
        obtain ⟨M1, x1, r1, f1⟩ := RepM.freezeAt (T1 := T) (T2 := rs.zip vs) r h1
        obtain ⟨M2, x2, r2, f2⟩ := RepM.freezeAll (T := T ++ [(.fz d, v)]) (rs := rs) (vs := vs) (by simpa using r1) (by simpa using hl) h2
        exact ⟨M2, x1.trans x2, by simpa using r2, .cons (f1.mono x2 _ _) f2⟩
      · cases hf
    · cases hf
  | [], _ :: _, T, M, e, e', ds, r, hl, hf => by simp at hl
  | _ :: _, [], T, M, e, e', ds, r, hl, hf => by simp at hl
end

/-! ### readings over data -/
abbrev DE := DEnv → (Res → DEnv → Prop) → Prop
abbrev DA := DEnv → (List Res → DEnv → Prop) → Prop
abbrev DT := DEnv → (Bool → DEnv → Prop) → Prop
def tOf (K : PySem.W.Frag) (f : DE) : TE := fun σ H Q => ∃ P B ios e T, Rep K P B ios e σ T H ∧ f e fun r e' => ∀ v H', Rep K P B ios e' σ (T ++ [(r, v)]) H' → Q v H'
def aOf (K : PySem.W.Frag) (f : DA) : TA := fun σ H Q => ∃ P B ios e T, Rep K P B ios e σ T H ∧ f e fun rs e' => ∀ vs H', rs.length = vs.length → Rep K P B ios e' σ (T ++ rs.zip vs) H' → Q vs H'
def ttOf (K : PySem.W.Frag) (f : DT) : TT := fun σ H Q => ∃ P B ios e T, Rep K P B ios e σ T H ∧ f e fun b e' => ∀ H', Rep K P B ios e' σ T H' → Q b H'
theorem pe_imp {X : Cx} {e : Expr} {t t' : TE} (h : PE X e t) (i : ∀ σ H Q, t' σ H Q → t σ H Q) : PE X e t' := ⟨fun pins s σ H Q I q => h.run pins s σ H Q I (i _ _ _ q)⟩
theorem pa_imp {X : Cx} {e : List Expr} {t t' : TA} (h : PA X e t) (i : ∀ σ H Q, t' σ H Q → t σ H Q) : PA X e t' := ⟨fun pos pins s σ H Q I q => h.run pos pins s σ H Q I (i _ _ _ q)⟩
theorem pt_imp {X : Cx} {e : Expr} {t t' : TT} (h : PT X e t) (i : ∀ σ H Q, t' σ H Q → t σ H Q) : PT X e t' := ⟨fun pins s σ H Q I q => h.run pins s σ H Q I (i _ _ _ q)⟩
theorem pw_imp {X : Cx} {e : Expr} {t t' : TT} (h : PW X e t) (i : ∀ σ H Q, t' σ H Q → t σ H Q) : PW X e t' := ⟨fun wh pins s σ H Q I q => h.run wh pins s σ H Q I (i _ _ _ q)⟩

structure FE (X : Cx) (e : Expr) (f : DE) : Prop where
  pe : PE X e (tOf X.K f)
  mono : ∀ e Q Q', (∀ r e', Q r e' → Q' r e') → f e Q → f e Q'
structure FA (X : Cx) (e : List Expr) (f : DA) : Prop where
  pa : PA X e (aOf X.K f)
  mono : ∀ e Q Q', (∀ r e', Q r e' → Q' r e') → f e Q → f e Q'
structure FT (X : Cx) (e : Expr) (f : DT) : Prop where
  pt : PT X e (ttOf X.K f)
  mono : ∀ e Q Q', (∀ r e', Q r e' → Q' r e') → f e Q → f e Q'
structure FW (X : Cx) (e : Expr) (f : DT) : Prop where
  pw : PW X e (ttOf X.K f)
  mono : ∀ e Q Q', (∀ r e', Q r e' → Q' r e') → f e Q → f e Q'
theorem FW.ft {X : Cx} {e : Expr} {f : DT} (h : FW X e f) : FT X e f := ⟨h.pw.pt, h.mono⟩

section
variable {X : Cx} {a b c : Expr} {es : List Expr} {fa fb fc : DE} {pos : Pos}
/-! ### names, constants -/
def rVar (i : Nat) : Kd × D → Res
  | (.fz, d) => .fz d
  | _ => .loc i
def wVar (i : Nat) : DE := fun e Q => match e[i]? with
  | some (some x) => Q (rVar i x) e
  | _ => False
theorem fe_var {i : Nat} (h : PE X a (tVar i)) : FE X a (wVar i) := by
  refine ⟨pe_imp h ?_, ?_⟩
  · rintro σ H Q ⟨P, B, ios, e, T, ⟨M, r⟩, w⟩
    unfold wVar at w
    split at w
    · rename_i x q
      obtain ⟨k, d⟩ := x
      cases k with
      | fz =>
        obtain ⟨v, s, f⟩ := r.fzS q
        exact ⟨v, s, w v H ⟨M, r.push_fz f⟩⟩
      | ow => obtain ⟨a, s, _⟩ := r.owS q rfl; exact ⟨_, s, w _ H ⟨M, r.push_loc s⟩⟩
      | io => obtain ⟨a, s, _⟩ := r.owS q rfl; exact ⟨_, s, w _ H ⟨M, r.push_loc s⟩⟩
      | sc => obtain ⟨a, n, s, _⟩ := r.scS q; exact ⟨_, s, w _ H ⟨M, r.push_loc s⟩⟩
    · exact w.elim
  · intro e Q Q' h w
    unfold wVar at w ⊢
    split
    · rename_i x q; rw [q] at w; exact h _ _ w
    · rename_i h1
      split at w
      · rename_i x q; exact absurd q (h1 x)
      · exact w
def wC (d : D) : DE := fun e Q => Q (.fz d) e
theorem fe_c {v : V} {d : D} (h : PE X a (tC v)) (hd : ∀ M, Fz X.K M d v) : FE X a (wC d) := by
  refine ⟨pe_imp h ?_, fun e Q Q' h w => h _ _ w⟩
  rintro σ H Q ⟨P, B, ios, e, T, ⟨M, r⟩, w⟩
  exact w v H ⟨M, r.push_fz (hd M)⟩
theorem fe_int {i : Int} {j : Nat} : FE X (.Constant (.int i) j pos) (wC (.int i)) := fe_c pe_int fun _ => by simp [Fz]
theorem fe_bl {i : Bool} {j : Nat} : FE X (.Constant (.bool i) j pos) (wC (.bool i)) := fe_c pe_bl fun _ => by simp [Fz]
theorem fe_str {i : Str} {j : Nat} : FE X (.Constant (.str i) j pos) (wC (.str i)) := fe_c pe_str fun _ => by simp [Fz]
theorem fe_non {j : Nat} : FE X (.Constant .none j pos) (wC .none) := fe_c pe_non fun _ => by simp [Fz]

/-! ### argument lists, displays -/
def wNil : DA := fun e Q => Q [] e
def wCons (f : DE) (g : DA) : DA := fun e Q => f e fun r e1 => g e1 fun rs e2 => Q (r :: rs) e2
theorem fa_nil : FA X [] wNil := by
  refine ⟨pa_imp pa_nil ?_, fun e Q Q' h w => h _ _ w⟩
  rintro σ H Q ⟨P, B, ios, e, T, r, w⟩
  exact w [] H rfl (by simpa using r)
theorem fa_cons {f : DE} {g : DA} (ha : FE X a f) (hr : FA X es g) (hs : starEach (a :: es) X.env = (false, eval a X.env) :: starEach es X.env := by rfl) : FA X (a :: es) (wCons f g) := by
  refine ⟨pa_imp (pa_cons ha.pe hr.pa hs) ?_, fun e Q Q' h w => ha.mono _ _ _ (fun r e1 w1 => hr.mono _ _ _ (fun rs e2 w2 => h _ _ w2) w1) w⟩
  rintro σ H Q ⟨P, B, ios, e, T, r, w⟩
  refine ⟨P, B, ios, e, T, r, ha.mono _ _ _ (fun r1 e1 w1 v H1 h1 => ?_) w⟩
  refine ⟨P, B, ios, e1, T ++ [(r1, v)], h1, hr.mono _ _ _ (fun rs e2 w2 vs H2 hl h2 => ?_) w1⟩
  exact w2 (v :: vs) H2 (by simp [hl]) (by simpa using h2)

theorem zip_left {α β : Type} : ∀ {l : List α} {m : List β}, l.length = m.length → (l.zip m).length = l.length
  | l, m, h => by rw [List.length_zip, h]; simp

/-! ### what an operation gives -/
inductive Out
  | val (d : D)
  | new (d : D)
  | tup (ds : List D)
def Out.res : Out → Res
  | .val d => .fz d
  | .new d => .ow d
  | .tup ds => .fz (.tuple ds)
def Gives (K : PySem.W.Frag) (M H : Hp) (Q : VK) : Out → Prop
  | .val d => ∀ v, Fz K M d v → Q v H
  | .new d => ∀ p o, H p = none → OwnAt K M (upd H p o) d p → Q (.ref p) (upd H p o)
  | .tup ds => (∀ v, Fz K M (.tuple ds) v → Q v H) ∧ ∀ p vs (o : Obj), H p = none → o.dict = none → FzL K M ds vs → Q (.ref p) (upd H p (.frz o (.tup vs)))
theorem RepM.grow {K : PySem.W.Frag} {P B M : Hp} {ios : List (Nat × V)} {e : DEnv} {σ : L2.St} {T : Tmp} {H : Hp} {p : Addr} {o : HO} (r : RepM K P B M ios e σ T H) (hp : H p = none) : RepM K P B (upd M p o) ios e σ T (upd H p o) := by
  refine ⟨?_, r.el, r.loc, r.io⟩
  refine (r.c.alloc hp).grow upd_same (r.c.ph.none hp) (fun i k d q hk => ?_) (r.mh.none hp)
  intro z
  exact r.c.ne_new hp q hk z
theorem gives_of {K : PySem.W.Frag} {P B M : Hp} {ios : List (Nat × V)} {e : DEnv} {σ : L2.St} {T : Tmp} {H : Hp} {Q : VK} {o : Out} (r : RepM K P B M ios e σ T H) (q : ∀ v H', Rep K P B ios e σ (T ++ [(o.res, v)]) H' → Q v H') : Gives K M H Q o := by
  cases o with
  | val d => intro v f; exact q v H ⟨M, r.push_fz f⟩
  | new d =>
    intro p o hp ow
    refine q (.ref p) _ ⟨M, (r.alloc hp).push_ow ow (.inl (r.mh.none hp)) (r.c.ph.none hp) fun i k d' h hk => ?_⟩
    exact r.c.ne_new hp h hk
  | tup ds =>
    refine ⟨fun v f => q v H ⟨M, r.push_fz f⟩, ?_⟩
    intro p vs o hp ho f
    refine q (.ref p) _ ⟨_, (r.grow hp).push_fz ?_⟩
    show Fz K (upd M p (.frz o (.tup vs))) (.tuple ds) (.ref p)
    simp only [Fz]
    exact ⟨p, vs, rfl, SqN.new ho, f.mono (Ex.updN (r.mh.none hp))⟩

/-! ### displays -/
def wTup (g : DA) : DE := fun e Q => g e fun rs e1 => rs.length ≤ 1000 ∧ ∃ ds e2, frzAll e1 rs = some (ds, e2) ∧ Q (.fz (.tuple ds)) e2
def wLst (g : DA) : DE := fun e Q => g e fun rs e1 => rs.length ≤ 1000 ∧ ∃ ds e2, frzAll e1 rs = some (ds, e2) ∧ Q (.ow (.list ds)) e2
theorem le_line {n : Nat} (h : n ≤ 1000) : n ≤ sizeLine := Nat.le_trans h (by decide)
theorem fe_tup {g : DA} {x1} (h : FA X es g) : FE X (.Tuple es x1 pos) (wTup g) := by
  refine ⟨pe_imp (pe_tupN h.pa) ?_, fun e Q Q' hq w => h.mono _ _ _ (fun rs e1 w1 => let ⟨l, ds, e2, w2, w3⟩ := w1; ⟨l, ds, e2, w2, hq _ _ w3⟩) w⟩
  rintro σ H Q ⟨P, B, ios, e, T, r, w⟩
  refine ⟨P, B, ios, e, T, r, h.mono _ _ _ (fun rs e1 w1 vs H1 hl h1 => ?_) w⟩
  obtain ⟨l, ds, e2, hf, w2⟩ := w1
  obtain ⟨M, h1⟩ := h1
  obtain ⟨M2, _, r2, f2⟩ := h1.freezeAll hl hf
  exact ⟨le_line (by omega), fun p o hp ho => (gives_of (o := .tup ds) r2.popN (fun v H' q => w2 v H' q)).2 p vs o hp ho f2⟩
def wTupO (g : DA) : DE := fun e Q => g e fun rs e1 => rs.length ≤ 1000 ∧ ∃ ds e2, frzAll e1 rs = some (ds, e2) ∧ Q (.ow (.tuple ds)) e2
theorem fe_tupO {g : DA} {x1} (h : FA X es g) : FE X (.Tuple es x1 pos) (wTupO g) := by
  refine ⟨pe_imp (pe_tup h.pa) ?_, fun e Q Q' hq w => h.mono _ _ _ (fun rs e1 w1 => let ⟨l, ds, e2, w2, w3⟩ := w1; ⟨l, ds, e2, w2, hq _ _ w3⟩) w⟩
  rintro σ H Q ⟨P, B, ios, e, T, r, w⟩
  refine ⟨P, B, ios, e, T, r, h.mono _ _ _ (fun rs e1 w1 vs H1 hl h1 => ?_) w⟩
  obtain ⟨l, ds, e2, w2, w3⟩ := w1
  obtain ⟨M, h1⟩ := h1
  refine ⟨by rw [← hl]; exact le_line l, fun p hp => ?_⟩
  obtain ⟨M2, x2, h2, f2⟩ := h1.freezeAll hl w2
  refine w3 (.ref p) _ ⟨M2, (h2.popN.alloc hp).push_ow ⟨vs, upd_same, f2⟩ (.inl (h2.mh.none hp)) (h2.c.ph.none hp) fun i k d' h hk => ?_⟩
  exact h2.popN.c.ne_new hp h hk
theorem fe_lst {g : DA} (h : FA X es g) : FE X (.List es pos) (wLst g) := by
  refine ⟨pe_imp (pe_lst h.pa) ?_, fun e Q Q' hq w => h.mono _ _ _ (fun rs e1 w1 => let ⟨l, ds, e2, w2, w3⟩ := w1; ⟨l, ds, e2, w2, hq _ _ w3⟩) w⟩
  rintro σ H Q ⟨P, B, ios, e, T, r, w⟩
  refine ⟨P, B, ios, e, T, r, h.mono _ _ _ (fun rs e1 w1 vs H1 hl h1 => ?_) w⟩
  obtain ⟨l, ds, e2, hf, w2⟩ := w1
  obtain ⟨M, h1⟩ := h1
  obtain ⟨M2, _, r2, f2⟩ := h1.freezeAll hl hf
  exact ⟨le_line (by omega), fun p hp => gives_of (o := .new (.list ds)) r2.popN (fun v H' q => w2 v H' q) p _ hp ⟨vs, upd_same, f2⟩⟩

/-! ### operators -/
structure Op2 (K : PySem.W.Frag) (r : R2) (g : D → D → (Out → Prop) → Prop) : Prop where
  run : ∀ M H d1 d2 x y Q, Ex M H → Vw K M H d1 x → Vw K M H d2 y → g d1 d2 (Gives K M H Q) → r x y H Q
  mono : ∀ d1 d2 Q Q', (∀ o, Q o → Q' o) → g d1 d2 Q → g d1 d2 Q'
def w2 (g : D → D → (Out → Prop) → Prop) (fa fb : DE) : DE := fun e Q => fa e fun r1 e1 => fb e1 fun r2 e2 => ∃ d1 d2, look e2 r1 = some d1 ∧ look e2 r2 = some d2 ∧ g d1 d2 fun o => Q o.res e2
theorem w2_mono {r : R2} {g : D → D → (Out → Prop) → Prop} (hg : Op2 X.K r g) (ha : FE X a fa) (hb : FE X b fb) : ∀ e Q Q', (∀ r e', Q r e' → Q' r e') → w2 g fa fb e Q → w2 g fa fb e Q' :=
  fun e Q Q' h w => ha.mono _ _ _ (fun r1 e1 w1 => hb.mono _ _ _ (fun r2 e2 ⟨d1, d2, l1, l2, w3⟩ => ⟨d1, d2, l1, l2, hg.mono _ _ _ _ (fun o q => h _ _ q) w3⟩) w1) w
theorem w2_run {r : R2} {g : D → D → (Out → Prop) → Prop} (hg : Op2 X.K r g) (ha : FE X a fa) (hb : FE X b fb) (σ : L2.St) (H : Hp) (Q : VK) : tOf X.K (w2 g fa fb) σ H Q → tOp r (tOf X.K fa) (tOf X.K fb) σ H Q := by
  rintro ⟨P, B, ios, e, T, h, w⟩
  refine ⟨P, B, ios, e, T, h, ha.mono _ _ _ (fun r1 e1 w1 x H1 h1 => ?_) w⟩
  refine ⟨P, B, ios, e1, _, h1, hb.mono _ _ _ (fun r2 e2 w2 y H2 h2 => ?_) w1⟩
  obtain ⟨d1, d2, l1, l2, w3⟩ := w2
  obtain ⟨M2, h2⟩ := h2
  refine hg.run M2 H2 d1 d2 x y Q h2.mh (h2.view (by simp) l1) (h2.view (by simp) l2) (hg.mono _ _ _ _ (fun o q => ?_) w3)
  exact gives_of h2.popN.popN q
theorem fe_op {op : Operator} {r : R2} {g : D → D → (Out → Prop) → Prop} (ho : OpR X (binaryOp op) r) (hg : Op2 X.K r g) (ha : FE X a fa) (hb : FE X b fb) : FE X (.BinOp a op b pos) (w2 g fa fb) :=
  ⟨pe_imp (pe_op ho ha.pe hb.pe) (w2_run hg ha hb), w2_mono hg ha hb⟩
theorem fe_cmp {op : CmpOp} {r : R2} {g : D → D → (Out → Prop) → Prop} (ho : OpR X (compareOp op) r) (hg : Op2 X.K r g) (ha : FE X a fa) (hb : FE X b fb) (hm : behindInMarks op b = false) : FE X (.Compare a [op] [b] pos) (w2 g fa fb) :=
  ⟨pe_imp (pe_cmpR ho ha.pe hb.pe hm) (w2_run hg ha hb), w2_mono hg ha hb⟩
/-- a reading whose answer is a bool, as a test -/
def wT (f : DE) : DT := fun e Q => f e fun r e' => ∃ b, r = .fz (.bool b) ∧ Q b e'
theorem wT_mono {f : DE} (hf : ∀ e Q Q', (∀ r e', Q r e' → Q' r e') → f e Q → f e Q') : ∀ e Q Q', (∀ r e', Q r e' → Q' r e') → wT f e Q → wT f e Q' :=
  fun e Q Q' h w => hf _ _ _ (fun r e' ⟨b, h1, h2⟩ => ⟨b, h1, h _ _ h2⟩) w
theorem wT_run {f : DE} (hf : ∀ e Q Q', (∀ r e', Q r e' → Q' r e') → f e Q → f e Q') {t : TE} (ht : ∀ σ H Q, tOf X.K f σ H Q → t σ H Q) (σ : L2.St) (H : Hp) (Q : Bool → Hp → Prop) : ttOf X.K (wT f) σ H Q → tTest t σ H Q := by
  rintro ⟨P, B, ios, e, T, h, w⟩
  refine ht _ _ _ ⟨P, B, ios, e, T, h, hf _ _ _ (fun r e' w1 v H1 h1 => ?_) w⟩
  obtain ⟨b, rfl, w2⟩ := w1
  obtain ⟨M, h1⟩ := h1
  have f := h1.tfz (d := .bool b) (v := v) (by simp)
  simp only [Fz] at f
  exact ⟨b, f, w2 H1 ⟨M, h1.popN⟩⟩
theorem ft_cmp {op : CmpOp} {r : R2} {g : D → D → (Out → Prop) → Prop} (ho : OpR X (compareOp op) r) (hg : Op2 X.K r g) (ha : FE X a fa) (hb : FE X b fb) (hm : behindInMarks op b = false) : FT X (.Compare a [op] [b] pos) (wT (w2 g fa fb)) :=
  ⟨pt_imp (pt_cmpR ho ha.pe hb.pe hm) (wT_run (w2_mono hg ha hb) (w2_run hg ha hb)), wT_mono (w2_mono hg ha hb)⟩
/-- an expression that gives a bool, as a test -/
theorem ft_val (h : FE X a fa) (he : ∀ whole, isTrue a X.env whole = (do let v ← whole; standAt a.pos; holding [v] (truthy v)) := by intro _; rfl) : FT X a (wT fa) :=
  ⟨pt_imp (pt_val h.pe he) (wT_run (t := tOf X.K fa) h.mono fun _ _ _ q => q), wT_mono h.mono⟩

/-! ### truth -/
def truth : D → Bool
  | .none => false
  | .bool b => b
  | .int i => i != 0
  | .str s => (s.length : Int) != 0
  | .list ds => !ds.isEmpty
  | .tuple ds => !ds.isEmpty
  | .dict kds => !kds.isEmpty
end
end PL
set_option Elab.async false
set_option linter.all false
set_option autoImplicit false
set_option maxRecDepth 100000
set_option maxHeartbeats 4000000
/-! PLc: chains, truth, and, or, not, if; subscripts, slices; calls of built-ins; methods that read; methods that change. -/
namespace PL
open PySem PySem.Spec PyProof.Rows L2

section
variable {X : Cx} {a b c : Expr} {es : List Expr} {fa fb fc : DE} {pos : Pos}
theorem fzb {K : PySem.W.Frag} {M : Hp} {b : Bool} {v : V} : Fz K M (.bool b) v ↔ v = .bl b := by simp [Fz]
theorem fzi {K : PySem.W.Frag} {M : Hp} {b : Int} {v : V} : Fz K M (.int b) v ↔ v = .int b := by simp [Fz]
theorem fzs {K : PySem.W.Frag} {M : Hp} {b : Str} {v : V} : Fz K M (.str b) v ↔ v = .str b := by simp [Fz]
theorem fzn {K : PySem.W.Frag} {M : Hp} {v : V} : Fz K M .none v ↔ v = .non := by simp [Fz]

theorem vwb {K : PySem.W.Frag} {M H : Hp} {b : Bool} {v : V} : Vw K M H (.bool b) v ↔ v = .bl b := by simp [Vw, Fz]
theorem vwi {K : PySem.W.Frag} {M H : Hp} {b : Int} {v : V} : Vw K M H (.int b) v ↔ v = .int b := by simp [Vw, Fz]
theorem vws {K : PySem.W.Frag} {M H : Hp} {b : Str} {v : V} : Vw K M H (.str b) v ↔ v = .str b := by simp [Vw, Fz]
theorem vwn {K : PySem.W.Frag} {M H : Hp} {v : V} : Vw K M H .none v ↔ v = .non := by simp [Vw, Fz]

/-! ### chains -/
def wChain (g g' : D → D → (Out → Prop) → Prop) (fa fb fc : DE) : DE := fun e Q => fa e fun r1 e1 => fb e1 fun r2 e2 => ∃ d1 d2, look e2 r1 = some d1 ∧ look e2 r2 = some d2 ∧ g d1 d2 fun o => ∃ k, o = .val (.bool k) ∧
  if k = true then fc e2 fun r3 e3 => ∃ d2 d3, look e3 r2 = some d2 ∧ look e3 r3 = some d3 ∧ g' d2 d3 fun o => Q o.res e3 else Q (.fz (.bool false)) e2
theorem wChain_mono {r r' : R2} {g g' : D → D → (Out → Prop) → Prop} (hg : Op2 X.K r g) (hg' : Op2 X.K r' g') (ha : FE X a fa) (hb : FE X b fb) (hc : FE X c fc) : ∀ e Q Q', (∀ r e', Q r e' → Q' r e') → wChain g g' fa fb fc e Q → wChain g g' fa fb fc e Q' :=
  fun e Q Q' h w => by
    refine ha.mono _ _ _ (fun r1 e1 w1 => hb.mono _ _ _ (fun r2 e2 w2 => ?_) w1) w
    obtain ⟨d1, d2, l1, l2, w3⟩ := w2
    refine ⟨d1, d2, l1, l2, hg.mono _ _ _ _ (fun o q => ?_) w3⟩
    obtain ⟨k, q1, q2⟩ := q
    refine ⟨k, q1, ?_⟩
    cases k with
    | true =>
      refine iteT (hc.mono _ _ _ (fun r3 e3 w4 => ?_) ((if_pos (rfl : true = true)).mp q2))
      obtain ⟨d2, d3, l2, l3, w4⟩ := w4
      exact ⟨d2, d3, l2, l3, hg'.mono _ _ _ _ (fun o q => h _ _ q) w4⟩
    | false => exact iteF (h _ _ (by simpa using q2))
theorem wChain_run {r r' : R2} {g g' : D → D → (Out → Prop) → Prop} (hg : Op2 X.K r g) (hg' : Op2 X.K r' g') (ha : FE X a fa) (hb : FE X b fb) (hc : FE X c fc) (σ : L2.St) (H : Hp) (Q : VK) :
    tOf X.K (wChain g g' fa fb fc) σ H Q → tChain r r' (tOf X.K fa) (tOf X.K fb) (tOf X.K fc) σ H Q := by
  rintro ⟨P, B, ios, e, T, h, w⟩
  refine ⟨P, B, ios, e, T, h, ha.mono _ _ _ (fun r1 e1 w1 x H1 h1 => ?_) w⟩
  refine ⟨P, B, ios, e1, _, h1, hb.mono _ _ _ (fun r2 e2 w2 y H2 h2 => ?_) w1⟩
  obtain ⟨d1, d2, l1, l2, w3⟩ := w2
  obtain ⟨M2, h2⟩ := h2
  refine hg.run M2 H2 d1 d2 x y _ h2.mh (h2.view (by simp) l1) (h2.view (by simp) l2) (hg.mono _ _ _ _ (fun o q => ?_) w3)
  obtain ⟨k, rfl, q2⟩ := q
  intro v hv
  rw [fzb] at hv
  subst hv
  refine ⟨k, rfl, ?_⟩
  cases k with
  | false =>
    refine iteF ?_
    have q3 : ∀ v H', Rep X.K P B ios e2 σ (T ++ [(.fz (.bool false), v)]) H' → Q v H' := by simpa using q2
    exact q3 _ H2 ⟨M2, h2.popN.popN.push_fz (fzb.mpr rfl)⟩
  | true =>
    refine iteT ?_
    have q3 := (if_pos (rfl : true = true)).mp q2
    refine ⟨P, B, ios, e2, _, ⟨M2, h2⟩, hc.mono _ _ _ (fun r3 e3 w4 z H3 h3 => ?_) q3⟩
    obtain ⟨d2', d3, l2', l3, w4⟩ := w4
    obtain ⟨M3, h3⟩ := h3
    refine hg'.run M3 H3 d2' d3 y z Q h3.mh (h3.view (by simp) l2') (h3.view (by simp) l3) (hg'.mono _ _ _ _ (fun o q => ?_) w4)
    exact gives_of h3.popN.popN.popN q
theorem fe_chain {op op' : CmpOp} {r r' : R2} {g g' : D → D → (Out → Prop) → Prop} (ho : OpR X (compareOp op) r) (ho' : OpR X (compareOp op') r') (hg : Op2 X.K r g) (hg' : Op2 X.K r' g') (ha : FE X a fa) (hb : FE X b fb) (hc : FE X c fc)
    (hm : lastMarks [op, op'] [b, c] = false := by with_unfolding_all rfl) : FE X (.Compare a [op, op'] [b, c] pos) (wChain g g' fa fb fc) :=
  ⟨pe_imp (pe_chain ho ho' ha.pe hb.pe hc.pe hm) (wChain_run hg hg' ha hb hc), wChain_mono hg hg' ha hb hc⟩
theorem ft_chain {op op' : CmpOp} {r r' : R2} {g g' : D → D → (Out → Prop) → Prop} (ho : OpR X (compareOp op) r) (ho' : OpR X (compareOp op') r') (hg : Op2 X.K r g) (hg' : Op2 X.K r' g') (ha : FE X a fa) (hb : FE X b fb) (hc : FE X c fc)
    (hm : lastMarks [op, op'] [b, c] = false := by with_unfolding_all rfl) : FT X (.Compare a [op, op'] [b, c] pos) (wT (wChain g g' fa fb fc)) :=
  ⟨pt_imp (pt_chain ho ho' ha.pe hb.pe hc.pe hm) (wT_run (wChain_mono hg hg' ha hb hc) (wChain_run hg hg' ha hb hc)), wT_mono (wChain_mono hg hg' ha hb hc)⟩

/-! ### truth -/
def truOk : D → Prop
  | .str s => s.length ≤ 100000
  | .dict _ => False
  | _ => True
theorem tru_of {K : PySem.W.Frag} {M H : Hp} {d : D} {v : V} (e : Ex M H) (h : Vw K M H d v) (ok : truOk d) : TruV K v H (truth d) := by
  cases d with
  | none => cases vwn.mp h; rfl
  | bool b => cases vwb.mp h; rfl
  | int i => cases vwi.mp h; rfl
  | str s => cases vws.mp h; exact ⟨Nat.le_trans ok (by decide), rfl⟩
  | list ds =>
    obtain ⟨p, vs, rfl, r, f⟩ := h
    refine .inl ⟨vs, .inl (.inl r), ?_⟩
    cases ds with
    | nil => simp only [FzL] at f; subst f; rfl
    | cons => simp only [FzL] at f; obtain ⟨v, r, rfl, _⟩ := f; rfl
  | tuple ds =>
    have h : Fz K M (.tuple ds) v := h
    simp only [Fz] at h
    obtain ⟨p, vs, rfl, r, f⟩ := h
    refine .inr (.inl ⟨vs, e.t r, ?_⟩)
    cases ds with
    | nil => simp only [FzL] at f; subst f; rfl
    | cons => simp only [FzL] at f; obtain ⟨v, r, rfl, _⟩ := f; rfl
  | dict => exact ok.elim
def wTru (fa : DE) : DT := fun e Q => fa e fun r e1 => ∃ d, look e1 r = some d ∧ truOk d ∧ Q (truth d) e1
theorem ft_truth (ha : FE X a fa) (he : ∀ whole, isTrue a X.env whole = (do let v ← whole; standAt a.pos; holding [v] (truthy v)) := by intro _; rfl) : FT X a (wTru fa) := by
  refine ⟨pt_imp (pt_truth ha.pe he) ?_, fun e Q Q' h w => ha.mono _ _ _ (fun r e1 ⟨d, l, o, q⟩ => ⟨d, l, o, h _ _ q⟩) w⟩
  rintro σ H Q ⟨P, B, ios, e, T, h, w⟩
  refine ⟨P, B, ios, e, T, h, ha.mono _ _ _ (fun r1 e1 w1 x H1 h1 => ?_) w⟩
  obtain ⟨d, l, o, q⟩ := w1
  obtain ⟨M, h1⟩ := h1
  exact ⟨_, tru_of h1.mh (h1.view (by simp) l) o, q H1 ⟨M, h1.popN⟩⟩

/-! ### and, or, not, if -/
variable {ta tb : DT} {rest : List Expr}
def wAndT (f g : DT) : DT := fun e Q => f e fun k e1 => if k = true then g e1 Q else Q false e1
def wOrT (f g : DT) : DT := fun e Q => f e fun k e1 => if k = true then Q true e1 else g e1 Q
def wNotT (f : DT) : DT := fun e Q => f e fun k e1 => Q (!k) e1
theorem fw_and1 (ha : FT X a ta) : FW X (.BoolOp .And [a] pos) ta := ⟨pw_and1 ha.pt, ha.mono⟩
theorem fw_or1 (ha : FT X a ta) : FW X (.BoolOp .Or [a] pos) ta := ⟨pw_or1 ha.pt, ha.mono⟩
theorem fw_and (ha : FT X a ta) (hb : FW X (.BoolOp .And (b :: rest) pos) tb) : FW X (.BoolOp .And (a :: b :: rest) pos) (wAndT ta tb) := by
  refine ⟨pw_imp (pw_and ha.pt hb.pw) ?_, fun e Q Q' h w => ha.mono _ _ _ (fun k e1 w1 => ?_) w⟩
  · rintro σ H Q ⟨P, B, ios, e, T, h, w⟩
    refine ⟨P, B, ios, e, T, h, ha.mono _ _ _ (fun k e1 w1 H1 h1 => ?_) w⟩
    cases k with
    | true => exact iteT ⟨P, B, ios, e1, T, h1, (if_pos (rfl : true = true)).mp w1⟩
    | false => exact iteF ((show (∀ H', Rep X.K P B ios e1 σ T H' → Q false H') by simpa using w1) H1 h1)
  · cases k with
    | true => exact iteT (hb.mono _ _ _ h (by simpa using w1))
    | false => exact iteF (h _ _ (by simpa using w1))
theorem fw_or (ha : FT X a ta) (hb : FW X (.BoolOp .Or (b :: rest) pos) tb) : FW X (.BoolOp .Or (a :: b :: rest) pos) (wOrT ta tb) := by
  refine ⟨pw_imp (pw_or ha.pt hb.pw) ?_, fun e Q Q' h w => ha.mono _ _ _ (fun k e1 w1 => ?_) w⟩
  · rintro σ H Q ⟨P, B, ios, e, T, h, w⟩
    refine ⟨P, B, ios, e, T, h, ha.mono _ _ _ (fun k e1 w1 H1 h1 => ?_) w⟩
    cases k with
    | false => exact iteF ⟨P, B, ios, e1, T, h1, by simpa using w1⟩
    | true => exact iteT ((show (∀ H', Rep X.K P B ios e1 σ T H' → Q true H') by simpa using w1) H1 h1)
  · cases k with
    | false => exact iteF (hb.mono _ _ _ h (by simpa using w1))
    | true => exact iteT (h _ _ (by simpa using w1))
theorem ft_not (ha : FT X a ta) : FT X (.UnaryOp .Not a pos) (wNotT ta) := by
  refine ⟨pt_imp (pt_not ha.pt) ?_, fun e Q Q' h w => ha.mono _ _ _ (fun k e1 w1 => h _ _ w1) w⟩
  rintro σ H Q ⟨P, B, ios, e, T, h, w⟩
  exact ⟨P, B, ios, e, T, h, w⟩
/-- as values: the operand itself is what comes out -/
def wAndV (f g : DE) : DE := fun e Q => f e fun r e1 => ∃ d, look e1 r = some d ∧ truOk d ∧ if truth d = true then g e1 Q else Q r e1
def wOrV (f g : DE) : DE := fun e Q => f e fun r e1 => ∃ d, look e1 r = some d ∧ truOk d ∧ if truth d = true then Q r e1 else g e1 Q
theorem fe_one {op : BoolOp} (ha : FE X a fa) : FE X (.BoolOp op [a] pos) fa := ⟨pe_one ha.pe, ha.mono⟩
theorem fe_and (ha : FE X a fa) (hb : FE X (.BoolOp .And (b :: rest) pos) fb) : FE X (.BoolOp .And (a :: b :: rest) pos) (wAndV fa fb) := by
  refine ⟨pe_imp (pe_andT ha.pe hb.pe) ?_, fun e Q Q' h w => ha.mono _ _ _ (fun r e1 ⟨d, l, o, w1⟩ => ⟨d, l, o, ?_⟩) w⟩
  · rintro σ H Q ⟨P, B, ios, e, T, h, w⟩
    refine ⟨P, B, ios, e, T, h, ha.mono _ _ _ (fun r e1 w1 x H1 h1 => ?_) w⟩
    obtain ⟨d, l, o, w1⟩ := w1
    obtain ⟨M, h1⟩ := h1
    refine ⟨truth d, tru_of h1.mh (h1.view (by simp) l) o, ?_⟩
    by_cases hd : truth d = true
    · rw [if_pos hd] at w1 ⊢
      exact ⟨P, B, ios, e1, T, ⟨M, h1.popN⟩, w1⟩
    · rw [if_neg hd] at w1 ⊢
      exact w1 x H1 ⟨M, h1⟩
  · by_cases hd : truth d = true
    · rw [if_pos hd] at w1 ⊢; exact hb.mono _ _ _ h w1
    · rw [if_neg hd] at w1 ⊢; exact h _ _ w1
theorem fe_or (ha : FE X a fa) (hb : FE X (.BoolOp .Or (b :: rest) pos) fb) : FE X (.BoolOp .Or (a :: b :: rest) pos) (wOrV fa fb) := by
  refine ⟨pe_imp (pe_orT ha.pe hb.pe) ?_, fun e Q Q' h w => ha.mono _ _ _ (fun r e1 ⟨d, l, o, w1⟩ => ⟨d, l, o, ?_⟩) w⟩
  · rintro σ H Q ⟨P, B, ios, e, T, h, w⟩
    refine ⟨P, B, ios, e, T, h, ha.mono _ _ _ (fun r e1 w1 x H1 h1 => ?_) w⟩
    obtain ⟨d, l, o, w1⟩ := w1
    obtain ⟨M, h1⟩ := h1
    refine ⟨truth d, tru_of h1.mh (h1.view (by simp) l) o, ?_⟩
    by_cases hd : truth d = true
    · rw [if_pos hd] at w1 ⊢
      exact w1 x H1 ⟨M, h1⟩
    · rw [if_neg hd] at w1 ⊢
      exact ⟨P, B, ios, e1, T, ⟨M, h1.popN⟩, w1⟩
  · by_cases hd : truth d = true
    · rw [if_pos hd] at w1 ⊢; exact h _ _ w1
    · rw [if_neg hd] at w1 ⊢; exact hb.mono _ _ _ h w1
def wNotV (f : DE) : DE := fun e Q => f e fun r e1 => ∃ d, look e1 r = some d ∧ truOk d ∧ Q (.fz (.bool (!truth d))) e1
theorem fe_not (ha : FE X a fa) : FE X (.UnaryOp .Not a pos) (wNotV fa) := by
  refine ⟨pe_imp (pe_notT ha.pe) ?_, fun e Q Q' h w => ha.mono _ _ _ (fun r e1 ⟨d, l, o, w1⟩ => ⟨d, l, o, h _ _ w1⟩) w⟩
  rintro σ H Q ⟨P, B, ios, e, T, h, w⟩
  refine ⟨P, B, ios, e, T, h, ha.mono _ _ _ (fun r e1 w1 x H1 h1 => ?_) w⟩
  obtain ⟨d, l, o, w1⟩ := w1
  obtain ⟨M, h1⟩ := h1
  exact ⟨truth d, tru_of h1.mh (h1.view (by simp) l) o, w1 _ H1 ⟨M, h1.popN.push_fz (fzb.mpr rfl)⟩⟩
def wIfE (t : DT) (f g : DE) : DE := fun e Q => t e fun k e1 => if k = true then f e1 Q else g e1 Q
theorem fe_if (hc : FT X c ta) (ha : FE X a fa) (hb : FE X b fb) : FE X (.IfExp c a b pos) (wIfE ta fa fb) := by
  refine ⟨pe_imp (pe_ifExp hc.pt ha.pe hb.pe) ?_, fun e Q Q' h w => hc.mono _ _ _ (fun k e1 w1 => ?_) w⟩
  · rintro σ H Q ⟨P, B, ios, e, T, h, w⟩
    refine ⟨P, B, ios, e, T, h, hc.mono _ _ _ (fun k e1 w1 H1 h1 => ?_) w⟩
    cases k with
    | true => exact iteT ⟨P, B, ios, e1, T, h1, (if_pos (rfl : true = true)).mp w1⟩
    | false => exact iteF ⟨P, B, ios, e1, T, h1, by simpa using w1⟩
  · cases k with
    | true => exact iteT (ha.mono _ _ _ h (by simpa using w1))
    | false => exact iteF (hb.mono _ _ _ h (by simpa using w1))
/-! ### -x -/
def wNeg (f : DE) : DE := fun e Q => f e fun r e1 => ∃ i, look e1 r = some (.int i) ∧ Q (.fz (.int (-i))) e1
theorem fe_neg (ha : FE X a fa) : FE X (.UnaryOp .USub a pos) (wNeg fa) := by
  refine ⟨pe_imp (pe_un un_neg ha.pe) ?_, fun e Q Q' h w => ha.mono _ _ _ (fun r e1 ⟨d, l, w1⟩ => ⟨d, l, h _ _ w1⟩) w⟩
  rintro σ H Q ⟨P, B, ios, e, T, h, w⟩
  refine ⟨P, B, ios, e, T, h, ha.mono _ _ _ (fun r e1 w1 x H1 h1 => ?_) w⟩
  obtain ⟨d, l, w1⟩ := w1
  obtain ⟨M, h1⟩ := h1
  have hv : x = .int d := fzi.mp (show Fz X.K M (.int d) x from h1.view (v := x) (by simp) l)
  exact ⟨d, hv, w1 _ H1 ⟨M, h1.popN.push_fz (fzi.mpr rfl)⟩⟩

/-! ### subscripts -/
theorem fe_ix {r : R2} {g : D → D → (Out → Prop) → Prop} (hr : IxR X r) (hg : Op2 X.K r g) (ha : FE X a fa) (hb : FE X b fb) (hs : PlainIx b) : FE X (.Subscript a b pos) (w2 g fa fb) :=
  ⟨pe_imp (pe_ix hr ha.pe hb.pe hs) (w2_run hg ha hb), w2_mono hg ha hb⟩
/-- a part of a slice: none, or a number -/
abbrev DO := DEnv → (Option Int → DEnv → Prop) → Prop
def oOf (K : PySem.W.Frag) (f : DO) : TO := fun σ H Q => ∃ P B ios e T, Rep K P B ios e σ T H ∧ f e fun o e' => ∀ H', Rep K P B ios e' σ T H' → Q o H'
structure FO (X : Cx) (e : Option Expr) (f : DO) : Prop where
  po : PO X e (oOf X.K f)
  mono : ∀ e Q Q', (∀ r e', Q r e' → Q' r e') → f e Q → f e Q'
def wNoPart : DO := fun e Q => Q none e
def wPart (f : DE) : DO := fun e Q => f e fun r e1 => ∃ i, look e1 r = some (.int i) ∧ Q (some i) e1
theorem fo_none : FO X none wNoPart := by
  refine ⟨⟨fun pins s σ H Q I h => po_none.run pins s σ H Q I ?_⟩, fun e Q Q' h w => h _ _ w⟩
  obtain ⟨P, B, ios, e, T, r, w⟩ := h
  exact w H r
theorem fo_some (ha : FE X a fa) : FO X (some a) (wPart fa) := by
  refine ⟨⟨fun pins s σ H Q I h => (po_some ha.pe).run pins s σ H Q I ?_⟩, fun e Q Q' h w => ha.mono _ _ _ (fun r e1 ⟨i, l, w1⟩ => ⟨i, l, h _ _ w1⟩) w⟩
  obtain ⟨P, B, ios, e, T, r, w⟩ := h
  refine ⟨P, B, ios, e, T, r, ha.mono _ _ _ (fun r e1 w1 x H1 h1 => ?_) w⟩
  obtain ⟨i, l, w1⟩ := w1
  obtain ⟨M, h1⟩ := h1
  exact ⟨i, fzi.mp (show Fz X.K M (.int i) x from h1.view (v := x) (by simp) l), w1 H1 ⟨M, h1.popN⟩⟩
structure OpS (K : PySem.W.Frag) (r : V → Option Int → Option Int → Hp → VK → Prop) (g : D → Option Int → Option Int → (Out → Prop) → Prop) : Prop where
  run : ∀ M H d x lo hi Q, Ex M H → Vw K M H d x → g d lo hi (Gives K M H Q) → r x lo hi H Q
  mono : ∀ d lo hi Q Q', (∀ o, Q o → Q' o) → g d lo hi Q → g d lo hi Q'
def wSl (g : D → Option Int → Option Int → (Out → Prop) → Prop) (fa : DE) (fl fh : DO) : DE := fun e Q => fa e fun r e1 => fl e1 fun lo e2 => fh e2 fun hi e3 => ∃ d, look e3 r = some d ∧ g d lo hi fun o => Q o.res e3
theorem fe_slice {r : V → Option Int → Option Int → Hp → VK → Prop} {g : D → Option Int → Option Int → (Out → Prop) → Prop} {lo hi : Option Expr} {fl fh : DO} {p2 : Pos} (hr : SlR X r) (hg : OpS X.K r g) (ha : FE X a fa) (hl : FO X lo fl) (hh : FO X hi fh) :
    FE X (.Subscript a (.Slice lo hi none p2) pos) (wSl g fa fl fh) := by
  refine ⟨pe_imp (pe_slice hr ha.pe hl.po hh.po) ?_, fun e Q Q' h w => ha.mono _ _ _ (fun r e1 w1 => hl.mono _ _ _ (fun o e2 w2 => hh.mono _ _ _ (fun o2 e3 ⟨d, l, w3⟩ => ⟨d, l, hg.mono _ _ _ _ _ (fun o q => h _ _ q) w3⟩) w2) w1) w⟩
  rintro σ H Q ⟨P, B, ios, e, T, h, w⟩
  refine ⟨P, B, ios, e, T, h, ha.mono _ _ _ (fun r e1 w1 x H1 h1 => ?_) w⟩
  refine ⟨P, B, ios, e1, _, h1, hl.mono _ _ _ (fun o e2 w2 H2 h2 => ?_) w1⟩
  refine ⟨P, B, ios, e2, _, h2, hh.mono _ _ _ (fun o2 e3 w3 H3 h3 => ?_) w2⟩
  obtain ⟨d, l, w3⟩ := w3
  obtain ⟨M, h3⟩ := h3
  exact hg.run M H3 d x o o2 Q h3.mh (h3.view (by simp) l) (hg.mono _ _ _ _ _ (fun o q => gives_of h3.popN q) w3)

/-! ### calls of built-ins -/
def VwL (K : PySem.W.Frag) (M H : Hp) : List D → List V → Prop
  | [], vs => vs = []
  | d :: ds, vs => ∃ v r, vs = v :: r ∧ Vw K M H d v ∧ VwL K M H ds r
def lookAll (e : DEnv) : List Res → Option (List D)
  | [] => some []
  | r :: rs => match look e r with
    | some d => match lookAll e rs with
      | some ds => some (d :: ds)
      | none => none
    | none => none
theorem RepM.views {K : PySem.W.Frag} {P B M : Hp} {ios : List (Nat × V)} {e : DEnv} {σ : L2.St} {H : Hp} : ∀ {rs : List Res} {vs : List V} {T : Tmp} {ds : List D}, RepM K P B M ios e σ (T ++ rs.zip vs) H → rs.length = vs.length → lookAll e rs = some ds → VwL K M H ds vs
  | [], [], T, ds, r, _, h => by cases h; simp [VwL]
  | x :: rs, v :: vs, T, ds, r, hl, h => by
    unfold lookAll at h
    split at h
    · rename_i d q
      split at h
      · rename_i ds' q'
        cases h
        simp only [VwL]
        refine ⟨v, vs, rfl, r.view (by simp) q, ?_⟩
        exact RepM.views (T := T ++ [(x, v)]) (by simpa using r) (by simpa using hl) q'
      · cases h
    · cases h
  | [], _ :: _, T, ds, r, hl, h => by simp at hl
  | _ :: _, [], T, ds, r, hl, h => by simp at hl
structure OpN (K : PySem.W.Frag) (r : List V → Hp → VK → Prop) (g : List D → (Out → Prop) → Prop) : Prop where
  run : ∀ M H ds vs Q, Ex M H → VwL K M H ds vs → g ds (Gives K M H Q) → r vs H Q
  mono : ∀ ds Q Q', (∀ o, Q o → Q' o) → g ds Q → g ds Q'
def wN (g : List D → (Out → Prop) → Prop) (fa : DA) : DE := fun e Q => fa e fun rs e1 => ∃ ds, lookAll e1 rs = some ds ∧ g ds fun o => Q o.res e1
theorem wN_mono {r : List V → Hp → VK → Prop} {g : List D → (Out → Prop) → Prop} {fs : DA} (hg : OpN X.K r g) (ha : FA X es fs) : ∀ e Q Q', (∀ r e', Q r e' → Q' r e') → wN g fs e Q → wN g fs e Q' :=
  fun e Q Q' h w => ha.mono _ _ _ (fun rs e1 ⟨ds, l, w1⟩ => ⟨ds, l, hg.mono _ _ _ (fun o q => h _ _ q) w1⟩) w
theorem wN_run {r : List V → Hp → VK → Prop} {g : List D → (Out → Prop) → Prop} {fs : DA} (hg : OpN X.K r g) (ha : FA X es fs) (σ : L2.St) (H : Hp) (Q : VK) : tOf X.K (wN g fs) σ H Q → tCB r (aOf X.K fs) σ H Q := by
  rintro ⟨P, B, ios, e, T, h, w⟩
  refine ⟨P, B, ios, e, T, h, ha.mono _ _ _ (fun rs e1 w1 vs H1 hl h1 => ?_) w⟩
  obtain ⟨ds, l, w1⟩ := w1
  obtain ⟨M, h1⟩ := h1
  exact hg.run M H1 ds vs Q h1.mh (h1.views hl l) (hg.mono _ _ _ (fun o q => gives_of h1.popN q) w1)
theorem fe_callB {id x : Str} {bid : String} {p : Pos} {r : List V → Hp → VK → Prop} {g : List D → (Out → Prop) → Prop} {fs : DA} (hc : CallR X (.builtin bid) r) (hg : OpN X.K r g) (hgl : Gl X x) (hm : X.mg x = none) (hv : bootBuiltins x = some (.builtin bid)) (ha : FA X (a :: es) fs)
    (hn : x ≠ "__name__" := by decide) (hdb : (x == ("__debug__" : Str)) = false := by decide) (hs : starEach (a :: es) X.env = (false, eval a X.env) :: starEach es X.env := by rfl) (hp : (backTo pos (starEach es X.env)).any (·.1) = false := by rfl) :
    FE X (.Call (.Name x p) (a :: es) [] pos) (wN g fs) :=
  ⟨pe_imp (pe_callB hc hgl hm hv ha.pa hn hdb hs hp) (wN_run hg ha), wN_mono hg ha⟩
theorem fe_callTy {x : Str} {T : String} {p : Pos} {r : List V → Hp → VK → Prop} {g : List D → (Out → Prop) → Prop} {fs : DA} (hc : CallR X (.type T) r) (hg : OpN X.K r g) (hgl : Gl X x) (hm : X.mg x = none) (hv : bootBuiltins x = some (.type T)) (ha : FA X (a :: es) fs)
    (hn : x ≠ "__name__" := by decide) (hdb : (x == ("__debug__" : Str)) = false := by decide) (hs : starEach (a :: es) X.env = (false, eval a X.env) :: starEach es X.env := by rfl) (hp : (backTo pos (starEach es X.env)).any (·.1) = false := by rfl) :
    FE X (.Call (.Name x p) (a :: es) [] pos) (wN g fs) :=
  ⟨pe_imp (pe_callTy hc hgl hm hv ha.pa hn hdb hs hp) (wN_run hg ha), wN_mono hg ha⟩

/-! ### methods that read -/
structure OpM (K : PySem.W.Frag) (T : String) (r : V → List V → Hp → VK → Prop) (ok : D → Prop) (g : D → List D → (Out → Prop) → Prop) : Prop where
  ty : ∀ M H d x, Ex M H → Vw K M H d x → ok d → tyV K T x H
  run : ∀ M H d ds x vs Q, Ex M H → Vw K M H d x → VwL K M H ds vs → g d ds (Gives K M H Q) → r x vs H Q
  mono : ∀ d ds Q Q', (∀ o, Q o → Q' o) → g d ds Q → g d ds Q'
def wM (ok : D → Prop) (g : D → List D → (Out → Prop) → Prop) (fo : DE) (fa : DA) : DE := fun e Q => fo e fun r e0 => ∃ d, look e0 r = some d ∧ ok d ∧ fa e0 fun rs e1 => ∃ d ds, look e1 r = some d ∧ lookAll e1 rs = some ds ∧ g d ds fun o => Q o.res e1
section
variable {o : Expr} {fo : DE} {fs : DA} {T id : String} {r : V → List V → Hp → VK → Prop} {ok : D → Prop} {g : D → List D → (Out → Prop) → Prop} {name : Str} {apos cpos : Pos}
theorem wM_mono (hg : OpM X.K T r ok g) (ho : FE X o fo) (ha : FA X es fs) : ∀ e Q Q', (∀ r e', Q r e' → Q' r e') → wM ok g fo fs e Q → wM ok g fo fs e Q' :=
  fun e Q Q' h w => ho.mono _ _ _ (fun r e1 ⟨d, l, k, w1⟩ => ⟨d, l, k, ha.mono _ _ _ (fun rs e2 ⟨d2, ds, l2, l3, w2⟩ => ⟨d2, ds, l2, l3, hg.mono _ _ _ _ (fun o q => h _ _ q) w2⟩) w1⟩) w
theorem fe_bm (pa : PlainAttrs T) (slot : PySem.Slot T name id) (hty : typeOf (.builtin id) = pure (.type "method_descriptor")) (hm : MtR X id r) (hg : OpM X.K T r ok g) (ho : FE X o fo) (ha : FA X (a :: es) fs)
    (hbase : attributeBase o name X.env (eval o X.env) = eval o X.env := by rfl)
    (hfew : ((backTo cpos (starEach (a :: es) X.env)).all (fun x => !x.1) && (backToKw cpos (keywordEach [] X.env)).all (fun x => x.1.isSome)
      && decide ((a :: es).length + ([] : List Keyword).length + (if ([] : List Keyword).isEmpty then 0 else 1) < 30)) = true := by rfl)
    (hline : (apos.endLine == cpos.line) = true := by rfl) (hs : starEach (a :: es) X.env = (false, eval a X.env) :: starEach es X.env := by rfl) (hplain : (backTo cpos (starEach es X.env)).any (·.1) = false := by rfl) :
    FE X (.Call (.Attribute o name apos) (a :: es) [] cpos) (wM ok g fo fs) := by
  refine ⟨pe_imp (pe_bm pa slot hty hm ho.pe ha.pa hbase hfew hline hs hplain) ?_, wM_mono hg ho ha⟩
  rintro σ H Q ⟨P, B, ios, e, T, h, w⟩
  refine ⟨P, B, ios, e, T, h, ho.mono _ _ _ (fun r e1 w1 x H1 h1 => ?_) w⟩
  obtain ⟨d, l, k, w1⟩ := w1
  obtain ⟨M, h1⟩ := h1
  refine ⟨hg.ty M H1 d x h1.mh (h1.view (by simp) l) k, P, B, ios, e1, _, ⟨M, h1⟩, ha.mono _ _ _ (fun rs e2 w2 vs H2 hl h2 => ?_) w1⟩
  obtain ⟨d2, ds, l2, l3, w2⟩ := w2
  obtain ⟨M2, h2⟩ := h2
  exact hg.run M2 H2 d2 ds x vs Q h2.mh (h2.view (by simp) l2) (h2.views hl l3) (hg.mono _ _ _ _ (fun o q => gives_of h2.popN.popN q) w2)
theorem fe_bm0 (pa : PlainAttrs T) (slot : PySem.Slot T name id) (hty : typeOf (.builtin id) = pure (.type "method_descriptor")) (hm : MtR X id r) (hg : OpM X.K T r ok g) (ho : FE X o fo)
    (hbase : attributeBase o name X.env (eval o X.env) = eval o X.env := by rfl) (hline : (apos.endLine == cpos.line) = true := by rfl) : FE X (.Call (.Attribute o name apos) [] [] cpos) (wM ok g fo wNil) := by
  refine ⟨pe_imp (pe_bm0 pa slot hty hm ho.pe hbase hline) ?_, wM_mono hg ho (X := X) fa_nil⟩
  rintro σ H Q ⟨P, B, ios, e, T, h, w⟩
  refine ⟨P, B, ios, e, T, h, ho.mono _ _ _ (fun r e1 w1 x H1 h1 => ?_) w⟩
  obtain ⟨d, l, k, d2, ds, l2, l3, w2⟩ := w1
  obtain ⟨M, h1⟩ := h1
  cases l3
  exact ⟨hg.ty M H1 d x h1.mh (h1.view (by simp) l) k, hg.run M H1 d2 [] x [] Q h1.mh (h1.view (by simp) l2) (by simp [VwL]) (hg.mono _ _ _ _ (fun o q => gives_of h1.popN q) w2)⟩
end

/-! ### methods that change what a slot owns -/
structure OpMut (K : PySem.W.Frag) (T : String) (r : V → List V → Hp → VK → Prop) (ok : D → Prop) (g : D → List D → (D → Out → Prop) → Prop) : Prop where
  ty : ∀ M H d a, OwnAt K M H d a → ok d → tyV K T (.ref a) H
  run : ∀ M H d a ds vs Q, Ex M H → M a = none → OwnAt K M H d a → FzL K M ds vs → g d ds (fun d' o => ∀ ob, OwnAt K M (upd H a ob) d' a → Gives K M (upd H a ob) Q o) → r (.ref a) vs H Q
  mono : ∀ d ds Q Q', (∀ d' o, Q d' o → Q' d' o) → g d ds Q → g d ds Q'
  nt : ∀ ds Q ts, ¬ g (.tuple ts) ds Q := by intro ds Q ts h; first | exact h | (cases ds <;> exact h)
def ownAt? (e : DEnv) (i : Nat) : Option (Kd × D) := match e[i]? with
  | some (some (.ow, d)) => some (.ow, d)
  | some (some (.io, d)) => some (.io, d)
  | _ => none
theorem ownAt_spec {e : DEnv} {i : Nat} {k : Kd} {d : D} (h : ownAt? e i = some (k, d)) : e[i]? = some (some (k, d)) ∧ k.own = true := by
  unfold ownAt? at h
  split at h
  · rename_i q; cases h; exact ⟨q, rfl⟩
  · rename_i q; cases h; exact ⟨q, rfl⟩
  · cases h
def wMut (ok : D → Prop) (g : D → List D → (D → Out → Prop) → Prop) (fo : DE) (fa : DA) : DE := fun e Q => fo e fun r e0 => ∃ i k d, r = .loc i ∧ ownAt? e0 i = some (k, d) ∧ ok d ∧ fa e0 fun rs e1 => ∃ ds e2 k d, frzAll e1 rs = some (ds, e2) ∧ ownAt? e2 i = some (k, d) ∧
  g d ds fun d' o => Q o.res (e2.set i (some (k, d')))
theorem RepM.mutate {K : PySem.W.Frag} {P B M : Hp} {ios : List (Nat × V)} {e : DEnv} {σ : L2.St} {T : Tmp} {H : Hp} {i : Nat} {k : Kd} {d d' : D} {a : Addr} {o : HO} (r : RepM K P B M ios e σ T H) (h : e[i]? = some (some (k, d))) (hk : k.own = true)
    (hs : σ[i]? = some (some (.ref a))) (hM : M a = none) (h' : OwnAt K M (upd H a o) d' a) : RepM K P B M ios (e.set i (some (k, d'))) σ T (upd H a o) := by
  have hi := (List.getElem?_eq_some_iff.mp h).1
  refine ⟨?_, by simp [r.el], r.loc, fun j w q => ?_⟩
  · have := r.c.mutate (left_get h) hk (by rw [r.sl h]; exact hs) hM h'
    rwa [set_left hi] at this
  · obtain ⟨s', d'', q''⟩ := r.io j w q
    refine ⟨s', ?_⟩
    rw [List.getElem?_set]
    split
    · rename_i hij; subst hij
      rw [h] at q''; cases q''
      (try rw [if_pos hi]); exact ⟨_, rfl⟩
    · exact ⟨_, q''⟩
section
variable {o : Expr} {fo : DE} {fs : DA} {T id : String} {r : V → List V → Hp → VK → Prop} {ok : D → Prop} {g : D → List D → (D → Out → Prop) → Prop} {name : Str} {apos cpos : Pos}
theorem wMut_mono (hg : OpMut X.K T r ok g) (ho : FE X o fo) (ha : FA X es fs) : ∀ e Q Q', (∀ r e', Q r e' → Q' r e') → wMut ok g fo fs e Q → wMut ok g fo fs e Q' :=
  fun e Q Q' h w => ho.mono _ _ _ (fun r e1 ⟨i, k, d, z, l, ko, w1⟩ => ⟨i, k, d, z, l, ko, ha.mono _ _ _ (fun rs e2 ⟨ds, e3, k2, d2, l2, l3, w2⟩ => ⟨ds, e3, k2, d2, l2, l3, hg.mono _ _ _ _ (fun d' o q => h _ _ q) w2⟩) w1⟩) w
theorem mut_end {P B M : Hp} {ios : List (Nat × V)} {e e2 : DEnv} {σ : L2.St} {T : Tmp} {H : Hp} {Q : VK} {i : Nat} {v : V} {rs : List Res} {vs : List V} {ds : List D} {k : Kd} {d : D} {Tn : String} (hg : OpMut X.K Tn r ok g)
    (h : RepM X.K P B M ios e σ (T ++ [(.loc i, v)] ++ rs.zip vs) H) (hl : rs.length = vs.length) (hf : frzAll e rs = some (ds, e2)) (ho : ownAt? e2 i = some (k, d))
    (w : g d ds fun d' o => ∀ v H', Rep X.K P B ios (e2.set i (some (k, d'))) σ (T ++ [(o.res, v)]) H' → Q v H') : r v vs H Q := by
  obtain ⟨M2, x2, h2, f2⟩ := h.freezeAll hl hf
  obtain ⟨q, hk⟩ := ownAt_spec ho
  have hs := h2.loc i v (by simp)
  obtain ⟨a, s, ow, hm, hp⟩ := h2.owS q hk
  rw [hs] at s; cases s
  have hM := hm.none fun ts z => hg.nt _ _ ts (z ▸ w)
  refine hg.run M2 H d a ds vs Q h2.mh hM ow f2 (hg.mono _ _ _ _ (fun d' o q' ob ow' => ?_) w)
  exact gives_of (h2.popN.popN.mutate q hk hs hM ow') q'
theorem fe_mut (pa : PlainAttrs T) (slot : PySem.Slot T name id) (hty : typeOf (.builtin id) = pure (.type "method_descriptor")) (hm : MtR X id r) (hg : OpMut X.K T r ok g) (ho : FE X o fo) (ha : FA X (a :: es) fs)
    (hbase : attributeBase o name X.env (eval o X.env) = eval o X.env := by rfl)
    (hfew : ((backTo cpos (starEach (a :: es) X.env)).all (fun x => !x.1) && (backToKw cpos (keywordEach [] X.env)).all (fun x => x.1.isSome)
      && decide ((a :: es).length + ([] : List Keyword).length + (if ([] : List Keyword).isEmpty then 0 else 1) < 30)) = true := by rfl)
    (hline : (apos.endLine == cpos.line) = true := by rfl) (hs : starEach (a :: es) X.env = (false, eval a X.env) :: starEach es X.env := by rfl) (hplain : (backTo cpos (starEach es X.env)).any (·.1) = false := by rfl) :
    FE X (.Call (.Attribute o name apos) (a :: es) [] cpos) (wMut ok g fo fs) := by
  refine ⟨pe_imp (pe_bm pa slot hty hm ho.pe ha.pa hbase hfew hline hs hplain) ?_, wMut_mono hg ho ha⟩
  rintro σ H Q ⟨P, B, ios, e, T, h, w⟩
  refine ⟨P, B, ios, e, T, h, ho.mono _ _ _ (fun r e1 w1 x H1 h1 => ?_) w⟩
  obtain ⟨i, k, d, rfl, l, ko, w1⟩ := w1
  obtain ⟨M, h1⟩ := h1
  obtain ⟨q, hk⟩ := ownAt_spec l
  have hsl := h1.loc i x (by simp)
  obtain ⟨p, s, ow, _, _⟩ := h1.owS q hk
  rw [hsl] at s; cases s
  refine ⟨hg.ty M H1 d p ow ko, P, B, ios, e1, _, ⟨M, h1⟩, ha.mono _ _ _ (fun rs e2 w2 vs H2 hl h2 => ?_) w1⟩
  obtain ⟨ds, e3, k2, d2, l2, l3, w2⟩ := w2
  obtain ⟨M2, h2⟩ := h2
  exact mut_end hg h2 hl l2 l3 w2
theorem fe_mut0 (pa : PlainAttrs T) (slot : PySem.Slot T name id) (hty : typeOf (.builtin id) = pure (.type "method_descriptor")) (hm : MtR X id r) (hg : OpMut X.K T r ok g) (ho : FE X o fo)
    (hbase : attributeBase o name X.env (eval o X.env) = eval o X.env := by rfl) (hline : (apos.endLine == cpos.line) = true := by rfl) : FE X (.Call (.Attribute o name apos) [] [] cpos) (wMut ok g fo wNil) := by
  refine ⟨pe_imp (pe_bm0 pa slot hty hm ho.pe hbase hline) ?_, wMut_mono hg ho (X := X) fa_nil⟩
  rintro σ H Q ⟨P, B, ios, e, T, h, w⟩
  refine ⟨P, B, ios, e, T, h, ho.mono _ _ _ (fun r e1 w1 x H1 h1 => ?_) w⟩
  obtain ⟨i, k, d, rfl, l, ko, ds, e3, k2, d2, l2, l3, w2⟩ := w1
  obtain ⟨M, h1⟩ := h1
  obtain ⟨q, hk⟩ := ownAt_spec l
  have hsl := h1.loc i x (by simp)
  obtain ⟨p, s, ow, _, _⟩ := h1.owS q hk
  rw [hsl] at s; cases s
  refine ⟨hg.ty M H1 d p ow ko, ?_⟩
  exact mut_end (rs := []) (vs := []) hg (by simpa using h1) rfl l2 l3 w2
end
end
end PL
set_option Elab.async false
set_option linter.all false
set_option autoImplicit false
set_option maxRecDepth 100000
set_option maxHeartbeats 4000000
/-! PLd: statements over data: blocks, return, if, assignments, loops. -/
namespace PL
open PySem PySem.Spec PyProof.Rows L2

structure DEnds where
  nx : DEnv → Prop
  rt : Res → DEnv → Prop
  bk : DEnv → Prop
  ct : DEnv → Prop
abbrev DS := DEnds → DEnv → Prop
structure DLe (D D' : DEnds) : Prop where
  nx : ∀ e, D.nx e → D'.nx e
  rt : ∀ r e, D.rt r e → D'.rt r e
  bk : ∀ e, D.bk e → D'.bk e
  ct : ∀ e, D.ct e → D'.ct e
theorem DLe.refl (D : DEnds) : DLe D D := ⟨fun _ h => h, fun _ _ h => h, fun _ h => h, fun _ h => h⟩
def NoLoc (T : Tmp) : Prop := ∀ t ∈ T, ∀ i, t.1 ≠ .loc i
/-- no held temp is one of these slots -/
def NoLocJ (js : List Nat) (T : Tmp) : Prop := ∀ t ∈ T, ∀ i ∈ js, t.1 ≠ .loc i
theorem NoLoc.j {T : Tmp} (h : NoLoc T) (js : List Nat) : NoLocJ js T := fun t ht i _ => h t ht i
theorem NoLocJ.app {js : List Nat} {T T' : Tmp} (h : NoLocJ js T) (h' : NoLocJ js T') : NoLocJ js (T ++ T') := fun t ht i hi => by
  rcases List.mem_append.mp ht with q | q
  · exact h t q i hi
  · exact h' t q i hi
theorem NoLocJ.sub {js ks : List Nat} {T : Tmp} (h : NoLocJ js T) (hs : ∀ k ∈ ks, k ∈ js) : NoLocJ ks T := fun t ht i hi => h t ht i (hs i hi)
theorem NoLoc.nil : NoLoc [] := fun t h => by simp at h
theorem NoLoc.app {T T' : Tmp} (h : NoLoc T) (h' : NoLoc T') : NoLoc (T ++ T') := fun t ht i => by
  rcases List.mem_append.mp ht with q | q
  · exact h t q i
  · exact h' t q i
def endsOf (K : PySem.W.Frag) (P B : Hp) (ios : List (Nat × V)) (T : Tmp) (D : Ends) : DEnds where
  nx := fun e => ∀ σ H, Rep K P B ios e σ T H → D.nx σ H
  rt := fun r e => ∀ v σ H, Rep K P B ios e σ (T ++ [(r, v)]) H → D.rt v H
  bk := fun e => ∀ σ H, Rep K P B ios e σ T H → D.bk σ H
  ct := fun e => ∀ σ H, Rep K P B ios e σ T H → D.ct σ H
def sOf (K : PySem.W.Frag) (g : DS) : TS := fun D σ H => ∃ P B ios e T, NoLoc T ∧ Rep K P B ios e σ T H ∧ g (endsOf K P B ios T D) e
theorem ps_imp {X : Cx} {e : Stmt} {t t' : TS} (h : PS X e t) (i : ∀ D σ H, t' D σ H → t D σ H) : PS X e t' := ⟨fun pins s σ H D I q => h.run pins s σ H D I (i _ _ _ q)⟩
theorem pss_imp {X : Cx} {e : List Stmt} {t t' : TS} (h : PSs X e t) (i : ∀ D σ H, t' D σ H → t D σ H) : PSs X e t' := ⟨fun pins s σ H D I q => h.run pins s σ H D I (i _ _ _ q)⟩
structure FS (X : Cx) (st : Stmt) (g : DS) : Prop where
  ps : PS X st (sOf X.K g)
  mono : ∀ D D' e, DLe D D' → g D e → g D' e
structure FSs (X : Cx) (st : List Stmt) (g : DS) : Prop where
  ps : PSs X st (sOf X.K g)
  mono : ∀ D D' e, DLe D D' → g D e → g D' e

section
variable {X : Cx} {a b c : Expr} {es : List Expr} {fa fb fc : DE} {ta : DT} {pos : Pos} {st : Stmt} {sts : List Stmt} {g g' : DS}
/-! ### blocks -/
def wNext : DS := fun D e => D.nx e
def wSeq (g g' : DS) : DS := fun D e => g { D with nx := fun e1 => g' D e1 } e
theorem fss_nil : FSs X [] wNext := by
  refine ⟨pss_imp pss_nil ?_, fun D D' e h w => h.nx _ w⟩
  rintro D σ H ⟨P, B, ios, e, T, nl, r, w⟩
  exact w σ H r
theorem fss_cons (h1 : FS X st g) (h2 : FSs X sts g') : FSs X (st :: sts) (wSeq g g') := by
  refine ⟨pss_imp (pss_cons h1.ps h2.ps) ?_, fun D D' e h w => h1.mono { D with nx := fun e1 => g' D e1 } _ _ ⟨fun e1 w1 => h2.mono _ _ _ h w1, h.rt, h.bk, h.ct⟩ w⟩
  rintro D σ H ⟨P, B, ios, e, T, nl, r, w⟩
  exact ⟨P, B, ios, e, T, nl, r, h1.mono { endsOf X.K P B ios T D with nx := fun e1 => g' (endsOf X.K P B ios T D) e1 } _ _ ⟨fun e1 w1 σ1 H1 r1 => ⟨P, B, ios, e1, T, nl, r1, w1⟩, fun _ _ q => q, fun _ q => q, fun _ q => q⟩ w⟩
theorem fss_one (h1 : FS X st g) : FSs X [st] g := ⟨pss_one h1.ps, h1.mono⟩
def wBreak : DS := fun D e => D.bk e
def wCont : DS := fun D e => D.ct e
theorem fs_pass : FS X (.Pass pos) wNext := by
  refine ⟨ps_imp ps_pass ?_, fun D D' e h w => h.nx _ w⟩
  rintro D σ H ⟨P, B, ios, e, T, nl, r, w⟩
  exact w σ H r
theorem fs_break : FS X (.Break pos) wBreak := by
  refine ⟨ps_imp ps_break ?_, fun D D' e h w => h.bk _ w⟩
  rintro D σ H ⟨P, B, ios, e, T, nl, r, w⟩
  exact w σ H r
theorem fs_cont : FS X (.Continue pos) wCont := by
  refine ⟨ps_imp ps_continue ?_, fun D D' e h w => h.ct _ w⟩
  rintro D σ H ⟨P, B, ios, e, T, nl, r, w⟩
  exact w σ H r
def wDrop (f : DE) : DS := fun D e => f e fun _ e1 => D.nx e1
theorem fs_expr (he : FE X a fa) (hs : swapsWith a none pos.line X.env = pure false := by rfl) : FS X (.Expr a pos) (wDrop fa) := by
  refine ⟨ps_imp (ps_expr he.pe hs) ?_, fun D D' e h w => he.mono _ _ _ (fun _ e1 w1 => h.nx _ w1) w⟩
  rintro D σ H ⟨P, B, ios, e, T, nl, r, w⟩
  exact ⟨P, B, ios, e, T, r, he.mono _ _ _ (fun r1 e1 w1 v H1 h1 => w1 σ H1 h1.popN) w⟩

/-! ### return -/
def retR (r : Res) (e : DEnv) (Q : Res → DEnv → Prop) : Prop := match r with
  | .loc i => ∃ d, e[i]? = some (some (.ow, d)) ∧ Q (.ow d) (e.set i none)
  | r => Q r e
def wRet (f : DE) : DS := fun D e => f e fun r e1 => retR r e1 D.rt
def wRetN : DS := fun D e => D.rt (.fz .none) e
theorem RepM.moveOut {K : PySem.W.Frag} {P B M : Hp} {ios : List (Nat × V)} {e : DEnv} {σ : L2.St} {T : Tmp} {H : Hp} {i : Nat} {d : D} {v : V} (r : RepM K P B M ios e σ (T ++ [(.loc i, v)]) H) (h : e[i]? = some (some (.ow, d))) :
    RepM K P B M ios (e.set i none) σ (T ++ [(.ow d, v)]) H := by
  have hs := r.loc i v (by simp)
  obtain ⟨a, s, o, hm, hp⟩ := r.owS h rfl
  rw [hs] at s; cases s
  have r1 := r.popN
  have hi := (List.getElem?_eq_some_iff.mp h).1
  have r2 : RepM K P B M ios (e.set i none) σ T H := by
    refine ⟨?_, by simp [r1.el], r1.loc, fun j w q => ?_⟩
    · have : (e.set i none) ++ tE T = (e ++ tE T).set i none := by rw [set_left hi]
      rw [this]
      refine r1.c.forget (by simp) fun j x q => ?_
      rw [List.getElem?_set] at q
      split at q
      · split at q <;> simp at q
      · exact q
    · obtain ⟨s', d'', q''⟩ := r1.io j w q
      refine ⟨s', d'', ?_⟩
      rw [List.getElem?_set]
      split
      · rename_i hij; subst hij; rw [h] at q''; cases q''
      · exact q''
  refine r2.push_ow o hm hp fun j k d' q hk z => ?_
  have : (e.set i none) ++ tE T = (e ++ tE T).set i none := by rw [set_left hi]
  rw [this, List.getElem?_set] at q
  split at q
  · split at q <;> simp at q
  · rename_i hij
    exact hij (r1.c.inj i j a .ow k d d' (left_get h) rfl q hk (by rw [r1.sl h]; exact hs) z)
theorem fs_ret (he : FE X a fa) : FS X (.Return (some a) pos) (wRet fa) := by
  refine ⟨ps_imp (ps_ret he.pe) ?_, fun D D' e h w => he.mono _ _ _ (fun r e1 w1 => ?_) w⟩
  · rintro D σ H ⟨P, B, ios, e, T, nl, r, w⟩
    refine ⟨P, B, ios, e, T, r, he.mono _ _ _ (fun r1 e1 w1 v H1 h1 => ?_) w⟩
    cases r1 with
    | loc i =>
      obtain ⟨d, q, w2⟩ := w1
      obtain ⟨M, h1⟩ := h1
      exact w2 v σ H1 ⟨M, h1.moveOut q⟩
    | fz d => exact w1 v σ H1 h1
    | ow d => exact w1 v σ H1 h1
    | junk => exact w1 v σ H1 h1
  · cases r with
    | loc i => obtain ⟨d, q, w2⟩ := w1; exact ⟨d, q, h.rt _ _ w2⟩
    | fz d => exact h.rt _ _ w1
    | ow d => exact h.rt _ _ w1
    | junk => exact h.rt _ _ w1
theorem fs_retN : FS X (.Return none pos) wRetN := by
  refine ⟨ps_imp ps_retN ?_, fun D D' e h w => h.rt _ _ w⟩
  rintro D σ H ⟨P, B, ios, e, T, nl, ⟨M, r⟩, w⟩
  exact w .non σ H ⟨M, r.push_fz (fzn.mpr rfl)⟩

/-! ### if -/
def wIf (t : DT) (g g' : DS) : DS := fun D e => t e fun k e1 => if k = true then g D e1 else g' D e1
theorem fs_if {sts' : List Stmt} (hc : FT X c ta) (ha : FSs X sts g) (hb : FSs X sts' g') : FS X (.If c sts sts' pos) (wIf ta g g') := by
  refine ⟨ps_imp (ps_if hc.pt ha.ps hb.ps) ?_, fun D D' e h w => hc.mono _ _ _ (fun k e1 w1 => ?_) w⟩
  · rintro D σ H ⟨P, B, ios, e, T, nl, r, w⟩
    refine ⟨P, B, ios, e, T, r, hc.mono _ _ _ (fun k e1 w1 H1 h1 => ?_) w⟩
    cases k with
    | true => exact iteT ⟨P, B, ios, e1, T, nl, h1, (if_pos (rfl : true = true)).mp w1⟩
    | false => exact iteF ⟨P, B, ios, e1, T, nl, h1, by simpa using w1⟩
  · cases k with
    | true => exact iteT (ha.mono _ _ _ h (by simpa using w1))
    | false => exact iteF (hb.mono _ _ _ h (by simpa using w1))

/-! ### targets -/
abbrev DG := Res → DEnv → (DEnv → Prop) → Prop
abbrev DGs := List D → DEnv → (DEnv → Prop) → Prop
def SameBut (js : List Nat) (σ σ' : L2.St) : Prop := σ'.length = σ.length ∧ ∀ j, j ∉ js → σ'[j]? = σ[j]?
theorem SameBut.refl (js : List Nat) (σ : L2.St) : SameBut js σ σ := ⟨rfl, fun _ _ => rfl⟩
theorem SameBut.trans {js ks : List Nat} {σ σ' σ'' : L2.St} (h : SameBut js σ σ') (h' : SameBut ks σ' σ'') : SameBut (js ++ ks) σ σ'' :=
  ⟨h'.1.trans h.1, fun j hj => (h'.2 j fun z => hj (List.mem_append_right _ z)).trans (h.2 j fun z => hj (List.mem_append_left _ z))⟩
def gOf (K : PySem.W.Frag) (js : List Nat) (g : DG) : TG := fun v σ H Q => ∃ P B ios e T r, NoLocJ js T ∧ Rep K P B ios e σ (T ++ [(r, v)]) H ∧ g r e fun e' => ∀ σ' H', SameBut js σ σ' → Rep K P B ios e' σ' T H' → Q σ' H'
def gsOf (K : PySem.W.Frag) (js : List Nat) (g : DGs) : TGs := fun vs σ H Q => ∃ P B ios e T ds, NoLocJ js T ∧ Rep K P B ios e σ (T ++ (ds.map Res.fz).zip vs) H ∧ ds.length = vs.length ∧ g ds e fun e' => ∀ σ' H', SameBut js σ σ' → Rep K P B ios e' σ' T H' → Q σ' H'
theorem pg_imp {X : Cx} {e : Expr} {t t' : TG} (h : PG X e t) (i : ∀ v σ H Q, t' v σ H Q → t v σ H Q) : PG X e t' := ⟨fun pins s σ H v u Q I r q => h.run pins s σ H v u Q I r (i _ _ _ _ q)⟩
theorem pgs_imp {X : Cx} {e : List Expr} {t t' : TGs} (h : PGs X e t) (i : ∀ v σ H Q, t' v σ H Q → t v σ H Q) : PGs X e t' := ⟨fun pins s σ H v u Q I r q => h.run pins s σ H v u Q I r (i _ _ _ _ q)⟩
structure FG (X : Cx) (e : Expr) (js : List Nat) (g : DG) : Prop where
  pg : PG X e (gOf X.K js g)
  mono : ∀ r e Q Q', (∀ e', Q e' → Q' e') → g r e Q → g r e Q'
structure FGs (X : Cx) (e : List Expr) (js : List Nat) (g : DGs) : Prop where
  pg : PGs X e (gsOf X.K js g)
  mono : ∀ r e Q Q', (∀ e', Q e' → Q' e') → g r e Q → g r e Q'
/-- may the slot be written -/
def okSlot (e : DEnv) (i : Nat) : Bool := match e[i]? with
  | some (some (.io, _)) => false
  | some _ => true
  | none => false
def asgn (i : Nat) : DG := fun r e Q => okSlot e i = true ∧ match r with
  | .fz d => Q (e.set i (some (.fz, d)))
  | .ow d => Q (e.set i (some (.ow, d)))
  | .loc j => ∃ d e', frz e (.loc j) = some (d, e') ∧ Q (e'.set i (some (.fz, d)))
  | .junk => False
theorem okSlot_lt {e : DEnv} {i : Nat} (h : okSlot e i = true) : i < e.length := by
  unfold okSlot at h
  split at h
  · cases h
  · rename_i q; exact (List.getElem?_eq_some_iff.mp q).1
  · cases h
theorem okSlot_io {e : DEnv} {i : Nat} {d : D} (h : okSlot e i = true) : e[i]? ≠ some (some (.io, d)) := by
  intro q
  unfold okSlot at h
  rw [q] at h
  cases h
theorem RepM.setS {K : PySem.W.Frag} {P B M : Hp} {ios : List (Nat × V)} {e : DEnv} {σ : L2.St} {T : Tmp} {H : Hp} {i : Nat} {v : V} {x : Kd × D} (r : RepM K P B M ios e σ T H) (nl : NoLocJ [i] T) (ok : okSlot e i = true)
    (h : RepC K P B M ((e ++ tE T).set i (some x)) ((σ ++ tV T).set i (some v)) H) : RepM K P B M ios (e.set i (some x)) (σ.set i (some v)) T H := by
  have hi := okSlot_lt ok
  rw [set_left hi, set_left (by rw [← r.el]; exact hi)] at h
  refine ⟨h, by simp [r.el], fun j w q => ?_, fun j w q => ?_⟩
  · have hne : i ≠ j := by rintro rfl; exact nl _ q i (by simp) rfl
    rw [List.getElem?_set, if_neg hne]; exact r.loc j w q
  obtain ⟨s, d, q'⟩ := r.io j w q
  have hne : i ≠ j := by rintro rfl; exact okSlot_io ok q'
  exact ⟨by rw [List.getElem?_set, if_neg hne]; exact s, d, by rw [List.getElem?_set, if_neg hne]; exact q'⟩
theorem okSlot_set {e : DEnv} {i j : Nat} {d : D} (ok : okSlot e i = true) : okSlot (e.set j (some (.fz, d))) i = true := by
  have hi := okSlot_lt ok
  unfold okSlot
  rw [List.getElem?_set]
  by_cases hij : j = i
  · subst hij
    rw [if_pos rfl, if_pos hi]
  · rw [if_neg hij]
    unfold okSlot at ok
    exact ok
theorem asgn_run {K : PySem.W.Frag} {i : Nat} {v : V} {σ : L2.St} {H : Hp} {Q : L2.St → Hp → Prop} : gOf K [i] (asgn i) v σ H Q → gName i v σ H Q := by
  have hsame : ∀ (σ : L2.St) (v : V), SameBut [i] σ (σ.set i (some v)) := fun σ v => ⟨by simp, fun j hj => by
    rw [List.getElem?_set, if_neg]
    rintro rfl
    exact hj (by simp)⟩
  rintro ⟨P, B, ios, e, T, r, nl, ⟨M, h1⟩, ok, w⟩
  have h0 := h1.popN
  cases r with
  | fz d =>
    have f := h1.tfz (d := d) (v := v) (by simp)
    exact w _ H (hsame σ v) ⟨M, h0.setS nl ok (h0.c.set_fz f)⟩
  | ow d =>
    obtain ⟨p, rfl, o, hm, hp⟩ := h1.tow (d := d) (v := v) (by simp)
    refine w _ H (hsame σ _) ⟨M, h0.setS nl ok (h0.c.set_ow o hm hp fun j k d' q hk z => ?_)⟩
    have ht : (T ++ [(Res.ow d, V.ref p)])[T.length]? = some (.ow d, .ref p) := by simp
    obtain ⟨t1, t2⟩ := h1.tget ht
    have hj := (List.getElem?_eq_some_iff.mp q).1
    have q2 : (e ++ tE (T ++ [(Res.ow d, V.ref p)]))[j]? = some (some (k, d')) := by rw [tE_app, ← List.append_assoc]; exact left_get q
    have z2 : (σ ++ tV (T ++ [(Res.ow d, V.ref p)]))[j]? = some (some (.ref p)) := by rw [tV_app, ← List.append_assoc]; exact left_get z
    have := h1.c.inj j _ p k .ow d' d q2 hk t1 rfl z2 t2
    rw [List.length_append, tE_len] at hj
    omega
  | loc j =>
    obtain ⟨d, e', hf, w⟩ := w
    obtain ⟨M', x, h2, f⟩ := h1.freezeAt (T1 := T) (T2 := []) hf
    have h3 := h2.popN
    have ok' : okSlot e' i = true := by
      unfold frz at hf
      dsimp only at hf
      split at hf
      · cases hf; exact ok
      · obtain ⟨_, _, rfl⟩ := fzO_some hf; exact okSlot_set ok
      · cases hf
    exact w _ H (hsame σ v) ⟨M', h3.setS nl ok' (h3.c.set_fz f)⟩
  | junk => exact w.elim
theorem asgn_mono (i : Nat) : ∀ r e Q Q', (∀ e', Q e' → Q' e') → asgn i r e Q → asgn i r e Q' := fun r e Q Q' hq w => by
  obtain ⟨ok, w⟩ := w
  refine ⟨ok, ?_⟩
  cases r with
  | fz d => exact hq _ w
  | ow d => exact hq _ w
  | loc j => obtain ⟨d, e', hf, w⟩ := w; exact ⟨d, e', hf, hq _ w⟩
  | junk => exact w
theorem fg_name {i : Nat} (h : PG X a (gName i)) : FG X a [i] (asgn i) := ⟨pg_imp h fun _ _ _ _ => asgn_run, asgn_mono i⟩
def wGNil : DGs := fun ds e Q => ds = [] ∧ Q e
def wGCons (g : DG) (gs : DGs) : DGs := fun ds e Q => ∃ d r, ds = d :: r ∧ g (.fz d) e fun e1 => gs r e1 Q
theorem fgs_nil : FGs X [] [] wGNil := by
  refine ⟨pgs_imp pgs_nil ?_, fun r e Q Q' hq w => ⟨w.1, hq _ w.2⟩⟩
  rintro vs σ H Q ⟨P, B, ios, e, T, ds, nl, h, hl, rfl, w⟩
  cases vs with
  | nil => exact ⟨rfl, w σ H (.refl _ _) (by simpa using h)⟩
  | cons => simp at hl
theorem fgs_cons {js ks : List Nat} {gd : DG} {gs : DGs} (h1 : FG X a js gd) (h2 : FGs X es ks gs) (hs : (assignEach (a :: es) X.env).map (·.2) = assign a X.env :: (assignEach es X.env).map (·.2) := by rfl) : FGs X (a :: es) (js ++ ks) (wGCons gd gs) := by
  refine ⟨pgs_imp (pgs_cons h1.pg h2.pg hs) ?_, fun r e Q Q' hq w => ?_⟩
  · rintro vs σ H Q ⟨P, B, ios, e, T, ds, nl, ⟨M, h⟩, hl, d, rr, rfl, w⟩
    cases vs with
    | nil => simp at hl
    | cons v vs =>
      refine ⟨v, vs, rfl, P, B, ios, e, T ++ (rr.map Res.fz).zip vs, .fz d, ?_, ?_, ?_⟩
      · refine (nl.sub fun k hk => List.mem_append_left _ hk).app fun t ht i _ z => ?_
        have := (List.of_mem_zip ht).1
        rw [z] at this
        obtain ⟨y, _, q⟩ := List.mem_map.mp this
        cases q
      · have f := h.tfz (d := d) (v := v) (by simp)
        have : RepM X.K P B M ios e σ (T ++ [(.fz d, v)] ++ (rr.map Res.fz).zip vs) H := by simpa using h
        exact ⟨M, this.mid.push_fz f⟩
      · refine h1.mono _ _ _ _ (fun e1 w1 σ1 H1 sm r1 => ?_) w
        exact ⟨P, B, ios, e1, T, rr, nl.sub (fun k hk => List.mem_append_right _ hk), r1, by simpa using hl, h2.mono _ _ _ _ (fun e2 w2 σ2 H2 sm2 r2 => w2 σ2 H2 (sm.trans sm2) r2) w1⟩
  · obtain ⟨d, rr, e1, w⟩ := w
    exact ⟨d, rr, e1, h1.mono _ _ _ _ (fun e1 w1 => h2.mono _ _ _ _ hq w1) w⟩
def wGTup (n : Nat) (gs : DGs) : DG := fun r e Q => ∃ ds, unp e r = some ds ∧ ds.length = n ∧ gs ds e Q
theorem RepM.pushList {K : PySem.W.Frag} {P B M : Hp} {ios : List (Nat × V)} {e : DEnv} {σ : L2.St} {H : Hp} : ∀ {ds : List D} {vs : List V} {T : Tmp}, RepM K P B M ios e σ T H → FzL K M ds vs → RepM K P B M ios e σ (T ++ (ds.map Res.fz).zip vs) H
  | [], vs, T, r, f => by simpa using r
  | d :: ds, [], T, r, f => by simpa using r
  | d :: ds, v :: vs, T, r, f => by
    obtain ⟨f1, f2⟩ := FzL.cons_iff.mp f
    have := RepM.pushList (r.push_fz f1) f2
    simpa using this
theorem fg_tup {js : List Nat} {k : Nat} {gs : DGs} {n : Nat} (hc : X.calm = true) (h : FGs X es js gs) (hn : (assignEach es X.env).length = n := by rfl) (hst : (assignEach es X.env).findIdx? (·.1) = none := by rfl) : FG X (.Tuple es k pos) js (wGTup n gs) := by
  refine ⟨pg_imp (pg_tup hc h.pg hn hst) ?_, fun r e Q Q' hq w => ?_⟩
  · rintro v σ H Q ⟨P, B, ios, e, T, r, nl, ⟨M, h1⟩, ds, l, ln, w⟩
    obtain ⟨p, vs, rfl, q, f⟩ := h1.unpack (v := v) (by simp) l
    exact ⟨p, vs, rfl, q, by rw [← f.length]; exact ln, P, B, ios, e, T, ds, nl, ⟨M, h1.popN.pushList f⟩, f.length, w⟩
  · obtain ⟨ds, l, ln, w⟩ := w
    exact ⟨ds, l, ln, h.mono _ _ _ _ hq w⟩
/-- o[i] = .. of a slot's own list or dict -/
structure OpSet (K : PySem.W.Frag) (t : TSet) (g : D → D → D → (D → Prop) → Prop) : Prop where
  run : ∀ M H d a dk dv k v (Q : Hp → Prop), Ex M H → M a = none → OwnAt K M H d a → Fz K M dk k → Fz K M dv v → g d dk dv (fun d' => ∀ ob, OwnAt K M (upd H a ob) d' a → Q (upd H a ob)) → t (.ref a) k v H Q
  mono : ∀ d dk dv Q Q', (∀ d', Q d' → Q' d') → g d dk dv Q → g d dk dv Q'
  nt : ∀ dk dv Q ts, ¬ g (.tuple ts) dk dv Q := by intro dk dv Q ts h; first | exact h | (cases dk <;> exact h)
def wGSub (g : D → D → D → (D → Prop) → Prop) (fo fi : DE) : DG := fun r e Q => fo e fun ro e1 => ∃ i, ro = .loc i ∧ fi e1 fun rk e2 => ∃ dv dk e3 k d, frzAll e2 [r, rk] = some ([dv, dk], e3) ∧ ownAt? e3 i = some (k, d) ∧ g d dk dv fun d' => Q (e3.set i (some (k, d')))
theorem fg_sub {t : TSet} {gd : D → D → D → (D → Prop) → Prop} (ho : FE X a fa) (hi : FE X b fb) (hs : PSet X t) (hg : OpSet X.K t gd)
    (ha : ∀ v, assign (.Subscript a b pos) X.env v = (do
      let ov ← holding [v] (eval a X.env)
      let iv ← holding [v, ov] (eval b X.env)
      standAt pos
      holding [v, ov, iv] (setItem ov iv v)
      release [v, ov, iv] []) := by intro _; rfl) : FG X (.Subscript a b pos) [] (wGSub gd fa fb) := by
  refine ⟨pg_imp (pg_sub ho.pe hi.pe hs ha) ?_, fun r e Q Q' hq w => ?_⟩
  · rintro v σ H Q ⟨P, B, ios, e, T, r, nl, h, w⟩
    refine ⟨P, B, ios, e, _, h, ho.mono _ _ _ (fun ro e1 w1 o H1 h1 => ?_) w⟩
    obtain ⟨i, rfl, w1⟩ := w1
    refine ⟨P, B, ios, e1, _, h1, hi.mono _ _ _ (fun rk e2 w2 y H2 h2 => ?_) w1⟩
    obtain ⟨dv, dk, e3, k, d, hf, ow, w3⟩ := w2
    obtain ⟨M, h2⟩ := h2
    -- the value and the key, frozen
    have h2' : RepM X.K P B M ios e2 σ (T ++ (r, v) :: ([(.loc i, o)] ++ [(rk, y)])) H2 := by simpa using h2
    unfold frzAll at hf
    split at hf
    · rename_i dv' e2' f1
      split at hf
      · rename_i ds2 e2'' f2
        unfold frzAll at f2
        split at f2
        · rename_i dk' e3' f3
          have f2' : some (dk' :: ([] : List D), e3') = some (ds2, e2'') := f2
          cases f2'
          cases hf
          obtain ⟨M1, x1, r1, q1⟩ := h2'.freezeAt f1
          have r1' : RepM X.K P B M1 ios e2' σ ((T ++ [(.fz dv, v)] ++ [(.loc i, o)]) ++ (rk, y) :: []) H2 := by simpa using r1
          obtain ⟨M2, x2, r2, q2⟩ := r1'.freezeAt f3
          obtain ⟨q, hk⟩ := ownAt_spec ow
          have hsl := r2.loc i o (by simp)
          obtain ⟨p, s, own, hm, hp⟩ := r2.owS q hk
          rw [hsl] at s; cases s
          have hM := hm.none fun ts z => hg.nt _ _ _ ts (z ▸ w3)
          refine hg.run M2 H2 d p dk dv y v _ r2.mh hM own q2 (q1.mono x2 _ _) (hg.mono _ _ _ _ _ (fun d' w4 ob ow' => ?_) w3)
          have r3 : RepM X.K P B M2 ios e3 σ (T ++ ([(.fz dv, v)] ++ [(.loc i, .ref p)] ++ [(.fz dk, y)])) H2 := by simpa using r2
          exact w4 σ _ (.refl _ _) ⟨M2, r3.popN.mutate q hk hsl hM ow'⟩
        · cases f2
      · cases hf
    · cases hf
  · refine ho.mono _ _ _ (fun ro e1 w1 => ?_) w
    obtain ⟨i, q, w1⟩ := w1
    refine ⟨i, q, hi.mono _ _ _ (fun rk e2 w2 => ?_) w1⟩
    obtain ⟨dv, dk, e3, k, d, hf, ow, w3⟩ := w2
    exact ⟨dv, dk, e3, k, d, hf, ow, hg.mono _ _ _ _ _ (fun d' w4 => hq _ w4) w3⟩
/-! ### assignments -/
def wAsg (f : DE) (g : DG) : DS := fun D e => f e fun r e1 => g r e1 D.nx
theorem fs_asg {tg : Expr} {js : List Nat} {gd : DG} (he : FE X a fa) (hg : FG X tg js gd) (hs : swapsWithSole [tg] a pos.line X.env = pure false := by rfl) (hw : swappedStores [tg] a X.env = pure none := by rfl)
    (h1 : (assignEach [tg] X.env).map (·.2) = [assign tg X.env] := by rfl) : FS X (.Assign [tg] a pos) (wAsg fa gd) := by
  refine ⟨ps_imp (ps_asg he.pe hg.pg hs hw h1) ?_, fun D D' e h w => he.mono _ _ _ (fun r e1 w1 => hg.mono _ _ _ _ h.nx w1) w⟩
  rintro D σ H ⟨P, B, ios, e, T, nl, r, w⟩
  refine ⟨P, B, ios, e, T, r, he.mono _ _ _ (fun r1 e1 w1 v H1 h1 => ?_) w⟩
  exact ⟨P, B, ios, e1, T, r1, nl.j _, h1, hg.mono _ _ _ _ (fun e2 w2 σ2 H2 _ r2 => w2 σ2 H2 r2) w1⟩
/-- name = e -/
theorem fs_setT {i : Nat} {t : TE} (hp : PS X st (tAsg t (gName i))) (ht : ∀ σ H Q, tOf X.K fa σ H Q → t σ H Q) (hm : ∀ e Q Q', (∀ r e', Q r e' → Q' r e') → fa e Q → fa e Q') : FS X st (wAsg fa (asgn i)) := by
  refine ⟨ps_imp hp ?_, fun D D' e h w => hm _ _ _ (fun r e1 w1 => asgn_mono i _ _ _ _ h.nx w1) w⟩
  rintro D σ H ⟨P, B, ios, e, T, nl, r, w⟩
  refine ht _ _ _ ⟨P, B, ios, e, T, r, hm _ _ _ (fun r1 e1 w1 v H1 h1 => ?_) w⟩
  exact asgn_run (K := X.K) ⟨P, B, ios, e1, T, r1, nl.j _, h1, asgn_mono i _ _ _ _ (fun e2 w2 σ2 H2 _ r2 => w2 σ2 H2 r2) w1⟩
theorem fs_set {i : Nat} {x : Str} {pos' : Pos} (he : FE X a fa) (hN : X.N.Nodup) (hi : X.N[i]? = some x) (hx : Loc X.env.scope x) (hs : swapsWith a (some (.Name x pos')) pos.line X.env = pure false := by rfl) (hf : X.fn x = true ∨ X.env.scope.names.lookup x = some .local := by first | exact .inl rfl | exact .inr rfl | assumption) :
    FS X (.Assign [.Name x pos'] a pos) (wAsg fa (asgn i)) := fs_setT (ps_set hN hi hx he.pe hs hf) (fun _ _ _ q => q) he.mono
end
end PL
set_option Elab.async false
set_option linter.all false
set_option autoImplicit false
set_option maxRecDepth 100000
set_option maxHeartbeats 4000000
/-! PLe: loops and comprehensions over data. -/
namespace PL
open PySem PySem.Spec PyProof.Rows L2

/-- the held temps of a loop: frozen ones alone -/
def AllFz (T : Tmp) : Prop := ∀ t ∈ T, ∃ d, t.1 = .fz d
theorem AllFz.noLoc {T : Tmp} (h : AllFz T) : NoLoc T := fun t ht i z => by
  obtain ⟨d, q⟩ := h t ht
  rw [q] at z; cases z
theorem allFz_zip (ds : List D) (vs : List V) : AllFz ((ds.map Res.fz).zip vs) := fun t ht => by
  have := (List.of_mem_zip (show (t.1, t.2) ∈ _ from ht)).1
  obtain ⟨d, _, q⟩ := List.mem_map.mp this
  exact ⟨d, q.symm⟩
abbrev DI := DEnv → (List Res → DEnv → Prop) → Prop
/-- an iterator gives these items, while the held temps stand -/
structure WalkOk (K : PySem.W.Frag) (P B : Hp) (ios : List (Nat × V)) (T0 : Tmp) (items : List Res) (st : DEnv → Prop) (J : It) : Prop where
  go : ∀ (i : Nat) ios' σ e T2 H r, Rep K P B ios' e σ (T0 ++ T2) H → st e → items[i]? = some r → J.go i H ∧ ∀ x H2, J.yld i H x H2 → Rep K P B ios' e σ (T0 ++ T2 ++ [(r, x)]) H2
  stop : ∀ (i : Nat) ios' σ e T2 H, Rep K P B ios' e σ (T0 ++ T2) H → st e → items.length ≤ i → J.stop i H
def iOf (K : PySem.W.Frag) (f : DI) : TI := fun σ H R => ∃ P B ios e T, Rep K P B ios e σ T H ∧ f e fun items e' => ∀ J H' T', AllFz T' → Rep K P B ios e' σ (T ++ T') H' → (∀ T1, (∀ t ∈ T', t ∈ T1) → WalkOk K P B ios T1 items (fun _ => True) J) → R J H'
structure FI (X : Cx) (tg it : Expr) (f : DI) : Prop where
  pi : PI X tg it (iOf X.K f)
  mono : ∀ e Q Q', (∀ r e', Q r e' → Q' r e') → f e Q → f e Q'
/-- what a comprehension walks: it may stay a slot's own, if it stands still -/
abbrev DIc := DEnv → (List Res → (DEnv → Prop) → List Nat → DEnv → Prop) → Prop
def HeldOk (ls : List Nat) (T : Tmp) : Prop := ∀ t ∈ T, (∃ d, t.1 = .fz d) ∨ ∃ i ∈ ls, t.1 = .loc i
theorem AllFz.held {T : Tmp} (h : AllFz T) (ls : List Nat) : HeldOk ls T := fun t ht => .inl (h t ht)
theorem HeldOk.j {ls vs : List Nat} {T : Tmp} (h : HeldOk ls T) (hv : ∀ v ∈ vs, v ∉ ls) : NoLocJ vs T := fun t ht i hi z => by
  rcases h t ht with ⟨d, q⟩ | ⟨j, hj, q⟩
  · rw [q] at z; cases z
  · rw [q] at z; cases z; exact hv _ hi hj
def iOfC (K : PySem.W.Frag) (f : DIc) : TI := fun σ H R => ∃ P B ios e T, Rep K P B ios e σ T H ∧ f e fun items st ls e' => ∀ J H' T', HeldOk ls T' → Rep K P B ios e' σ (T ++ T') H' → (∀ T1, (∀ t ∈ T', t ∈ T1) → WalkOk K P B ios T1 items st J) → R J H'
structure FIc (X : Cx) (tg it : Expr) (f : DIc) : Prop where
  pi : PI X tg it (iOfC X.K f)
  mono : ∀ e (Q Q' : List Res → (DEnv → Prop) → List Nat → DEnv → Prop), (∀ r st ls e', Q r st ls e' → Q' r st ls e') → f e Q → f e Q'
theorem pi_imp {X : Cx} {tg it : Expr} {t t' : TI} (h : PI X tg it t) (i : ∀ σ H Q, t' σ H Q → t σ H Q) : PI X tg it t' := ⟨fun pins s σ H Q I q => h.run pins s σ H Q I (i _ _ _ q)⟩

def wIc (f : DI) : DIc := fun e Q => f e fun items e1 => Q items (fun _ => True) [] e1
theorem fic_of {X : Cx} {tg it : Expr} {f : DI} (h : FI X tg it f) : FIc X tg it (wIc f) := by
  refine ⟨pi_imp h.pi ?_, fun e Q Q' hq w => h.mono _ _ _ (fun items e1 w1 => hq _ _ _ _ w1) w⟩
  rintro σ H R ⟨P, B, ios, e, T, r, w⟩
  exact ⟨P, B, ios, e, T, r, h.mono _ _ _ (fun items e1 w1 J H' T' hf r1 wk => w1 J H' T' (hf.held _) r1 wk) w⟩
/-! ### for -/
def forL (g : DG) (b : DS) (D : DEnds) : List Res → DEnv → Prop
  | [], e => D.nx e
  | d :: ds, e => g d e fun e1 => b { D with nx := fun e2 => forL g b D ds e2, ct := fun e2 => forL g b D ds e2, bk := D.nx } e1
def wFor (fi : DI) (g : DG) (b : DS) : DS := fun D e => fi e fun items e1 => forL g b D items e1
section
variable {X : Cx} {a b c : Expr} {es : List Expr} {fa fb fc : DE} {ta : DT} {pos : Pos} {sts : List Stmt}
theorem forL_mono {gd : DG} {bd : DS} (hg : ∀ r e Q Q', (∀ e', Q e' → Q' e') → gd r e Q → gd r e Q') (hb : ∀ D D' e, DLe D D' → bd D e → bd D' e) : ∀ (ds : List Res) (D D' : DEnds) e, DLe D D' → forL gd bd D ds e → forL gd bd D' ds e
  | [], D, D', e, h, w => h.nx _ w
  | d :: ds, D, D', e, h, w => by
    refine hg _ _ _ _ (fun e1 w1 => ?_) w
    exact hb { D with nx := fun e2 => forL gd bd D ds e2, ct := fun e2 => forL gd bd D ds e2, bk := D.nx } _ _ ⟨fun e2 w2 => forL_mono hg hb ds D D' e2 h w2, h.rt, fun e2 w2 => h.nx e2 w2, fun e2 w2 => forL_mono hg hb ds D D' e2 h w2⟩ w1
theorem fs_for {tg iter : Expr} {js : List Nat} {fi : DI} {gd : DG} {bd : DS} (hp : PassesOwn (model X.prog X.w) X.A X.env X.xe) (hc : X.calm = true) (hi : FI X tg iter fi) (hg : FG X tg js gd) (hb : FSs X sts bd)
    (hs : ∀ x, foldedSetIterable iter X.env x = pure x := by intro _; rfl) : FS X (.For tg iter sts [] pos) (wFor fi gd bd) := by
  refine ⟨ps_imp (ps_for hp hc hi.pi hg.pg hb.ps hs) ?_, fun D D' e h w => hi.mono _ _ _ (fun items e1 w1 => forL_mono hg.mono hb.mono items D D' e1 h w1) w⟩
  rintro Dh σ H ⟨P, B, ios, e, T, nl, r, w⟩
  refine ⟨P, B, ios, e, T, r, hi.mono _ _ _ (fun items e1 w1 J H1 T' hf r1 wk => ?_) w⟩
  have nl' : NoLoc (T ++ T') := nl.app hf.noLoc
  have wk1 := wk (T ++ T') fun t ht => List.mem_append_right _ ht
  refine ⟨fun i m σ' H' => m = items.length - i ∧ i ≤ items.length ∧ ∃ e2, Rep X.K P B ios e2 σ' (T ++ T') H' ∧ forL gd bd (endsOf X.K P B ios T Dh) (items.drop i) e2, ⟨items.length, by omega, by omega, e1, r1, by simpa using w1⟩, ?_⟩
  rintro i m σ2 H2 ⟨rfl, hle, e2, r2, w2⟩
  by_cases hlt : i < items.length
  · have hd : items.drop i = items[i] :: items.drop (i + 1) := List.drop_eq_getElem_cons hlt
    rw [hd] at w2
    obtain ⟨hgo, hyl⟩ := wk1.go i ios σ2 e2 [] H2 items[i] (by simpa using r2) trivial (List.getElem?_eq_getElem hlt)
    refine .inr ⟨hgo, fun σ' H' => ∃ e3, Rep X.K P B ios e3 σ' (T ++ T') H' ∧ forL gd bd (endsOf X.K P B ios T Dh) (items.drop (i + 1)) e3, fun σ' H' hN => ⟨items.length - (i + 1), by omega, rfl, hlt, hN⟩, fun x H3 hy => ?_⟩
    have r3 : Rep X.K P B ios e2 σ2 (T ++ T' ++ [(items[i], x)]) H3 := by simpa using hyl x H3 hy
    refine ⟨P, B, ios, e2, T ++ T', items[i], nl'.j _, r3, hg.mono _ _ _ _ (fun e3 w3 σ4 H4 _ r4 => ?_) w2⟩
    refine ⟨P, B, ios, e3, T ++ T', nl', r4, hb.mono _ _ _ ⟨?_, ?_, ?_, ?_⟩ w3⟩
    · exact fun e5 w5 σ5 H5 r5 => ⟨e5, r5, w5⟩
    · exact fun rr e5 w5 v σ5 H5 r5 => w5 v σ5 H5 r5.mid
    · exact fun e5 w5 σ5 H5 r5 => w5 σ5 H5 r5.popN
    · exact fun e5 w5 σ5 H5 r5 => ⟨e5, r5, w5⟩
  · have hi' : i = items.length := by omega
    subst hi'
    rw [List.drop_length] at w2
    exact .inl ⟨wk1.stop _ ios σ2 e2 [] H2 (by simpa using r2) trivial (Nat.le_refl _), w2 σ2 H2 r2.popN⟩

/-! ### while -/
def wWhile (c : DT) (b : DS) : DS := fun D e => ∃ W : Nat → DEnv → Prop, (∃ m, W m e) ∧ ∀ m e, W m e → c e fun k e1 => if k = true then ∃ N : DEnv → Prop, (∀ e', N e' → ∃ m', m' < m ∧ W m' e') ∧ b { D with nx := N, ct := N, bk := D.nx } e1 else D.nx e1
theorem fs_while {bd : DS} (hp : PassesOwn (model X.prog X.w) X.A X.env X.xe) (hc : FT X c ta) (hb : FSs X sts bd) : FS X (.While c sts [] pos) (wWhile ta bd) := by
  refine ⟨ps_imp (ps_while hp hc.pt hb.ps) ?_, fun D D' e h w => ?_⟩
  · rintro Dh σ H ⟨P, B, ios, e, T, nl, r, W, ⟨m0, w0⟩, turn⟩
    refine ⟨fun m σ' H' => ∃ e', Rep X.K P B ios e' σ' T H' ∧ W m e', ⟨m0, e, r, w0⟩, ?_⟩
    rintro m σ1 H1 ⟨e1, r1, w1⟩
    refine ⟨P, B, ios, e1, T, r1, hc.mono _ _ _ (fun k e2 w2 H2 r2 => ?_) (turn m e1 w1)⟩
    cases k with
    | true =>
      obtain ⟨N, hN, w3⟩ := (if_pos (rfl : true = true)).mp w2
      refine iteT ⟨fun σ' H' => ∃ e', Rep X.K P B ios e' σ' T H' ∧ N e', ?_, ?_⟩
      · rintro σ' H' ⟨e', r', n'⟩
        obtain ⟨m', hm, w'⟩ := hN e' n'
        exact ⟨m', hm, e', r', w'⟩
      · exact ⟨P, B, ios, e2, T, nl, r2, hb.mono { endsOf X.K P B ios T Dh with nx := N, ct := N, bk := (endsOf X.K P B ios T Dh).nx } _ _ ⟨fun e5 w5 σ5 H5 r5 => ⟨e5, r5, w5⟩, fun _ _ q => q, fun _ q => q, fun e5 w5 σ5 H5 r5 => ⟨e5, r5, w5⟩⟩ w3⟩
    | false =>
      refine iteF ?_
      have w3 : (endsOf X.K P B ios T Dh).nx e2 := by simpa using w2
      exact w3 σ1 H2 r2
  · obtain ⟨W, w0, turn⟩ := w
    refine ⟨W, w0, fun m e1 w1 => hc.mono _ _ _ (fun k e2 w2 => ?_) (turn m e1 w1)⟩
    cases k with
    | true =>
      obtain ⟨N, hN, w3⟩ := (if_pos (rfl : true = true)).mp w2
      exact iteT ⟨N, hN, hb.mono { D with nx := N, ct := N, bk := D.nx } _ _ ⟨fun _ q => q, h.rt, fun e q => h.nx e q, fun _ q => q⟩ w3⟩
    | false => exact iteF (h.nx _ (by simpa using w2))

/-! ### comprehensions -/
def wipeE (e : DEnv) : List Nat → DEnv
  | [] => e
  | v :: vs => (wipeE e vs).set v none
def restE (e1 e2 : DEnv) : List Nat → DEnv
  | [] => e2
  | v :: vs => match e1[v]? with
    | some (some (.fz, d)) => (restE e1 e2 vs).set v (some (.fz, d))
    | _ => restE e1 e2 vs
def lcL (g : DG) (t : DT) (f : DE) (vs : List Nat) (st : DEnv → Prop) (Q : List D → DEnv → Prop) : List Res → List D → DEnv → Prop
  | [], acc, e => st e ∧ Q acc e
  | d :: ds, acc, e => st e ∧ g d e fun e1 => t e1 fun k e2 => if k = true then f e2 fun r e3 => ∃ y e4, frz e3 r = some (y, e4) ∧ lcL g t f vs st Q ds (acc ++ [y]) (wipeE e4 vs) else lcL g t f vs st Q ds acc (wipeE e2 vs)
def wLc (fi : DIc) (g : DG) (t : DT) (f : DE) (vs : List Nat) : DE := fun e Q => fi e fun items st ls e1 => items.length ≤ 100000 ∧ (∀ v ∈ vs, okSlot e1 v = true ∧ v ∉ ls) ∧ lcL g t f vs st (fun acc e2 => Q (.ow (.list acc)) (restE e1 e2 vs)) items [] (wipeE e1 vs)
theorem lcL_mono {gd : DG} {t : DT} {f : DE} {vs : List Nat} (hg : ∀ r e Q Q', (∀ e', Q e' → Q' e') → gd r e Q → gd r e Q') (ht : ∀ e Q Q', (∀ r e', Q r e' → Q' r e') → t e Q → t e Q') (hf : ∀ e Q Q', (∀ r e', Q r e' → Q' r e') → f e Q → f e Q')
    {st : DEnv → Prop} {Q Q' : List D → DEnv → Prop} (h : ∀ acc e, Q acc e → Q' acc e) : ∀ (ds : List Res) (acc : List D) e, lcL gd t f vs st Q ds acc e → lcL gd t f vs st Q' ds acc e
  | [], acc, e, w => ⟨w.1, h _ _ w.2⟩
  | d :: ds, acc, e, w => by
    obtain ⟨ws, w⟩ := w
    refine ⟨ws, ?_⟩
    refine hg _ _ _ _ (fun e1 w1 => ht _ _ _ (fun k e2 w2 => ?_) w1) w
    cases k with
    | true =>
      refine iteT (hf _ _ _ (fun r e3 w3 => ?_) ((if_pos (rfl : true = true)).mp w2))
      obtain ⟨y, e4, q, w4⟩ := w3
      exact ⟨y, e4, q, lcL_mono hg ht hf h ds _ _ w4⟩
    | false => exact iteF (lcL_mono hg ht hf h ds _ _ (by simpa using w2))
theorem wipeE_len (e : DEnv) : ∀ vs, (wipeE e vs).length = e.length
  | [] => rfl
  | v :: vs => by unfold wipeE; rw [List.length_set, wipeE_len e vs]
theorem wipeE_get {e : DEnv} : ∀ {vs : List Nat} {i : Nat} {x : Kd × D}, (wipeE e vs)[i]? = some (some x) → e[i]? = some (some x) ∧ i ∉ vs
  | [], i, x, h => ⟨h, by simp⟩
  | v :: vs, i, x, h => by
    unfold wipeE at h
    rw [List.getElem?_set] at h
    split at h
    · split at h <;> simp at h
    · rename_i hij
      obtain ⟨h1, h2⟩ := wipeE_get h
      exact ⟨h1, by simp only [List.mem_cons, not_or]; exact ⟨fun z => hij z.symm, h2⟩⟩
theorem wipe_get {σ : L2.St} : ∀ {vs : List Nat} {i : Nat}, (wipe σ vs)[i]? = if i ∈ vs then (if i < σ.length then some none else none) else σ[i]?
  | [], i => by simp [wipe]
  | v :: vs, i => by
    unfold wipe
    rw [List.getElem?_set, wipe_length]
    by_cases hv : v = i
    · subst hv; simp
    · rw [if_neg hv, wipe_get]
      have : (i ∈ v :: vs) ↔ i ∈ vs := by
        simp only [List.mem_cons]
        exact ⟨fun h => h.resolve_left fun z => hv z.symm, .inr⟩
      simp only [this]
theorem wipe_same {js vs : List Nat} {σ σ2 : L2.St} (h : SameBut js (wipe σ vs) σ2) (hj : ∀ j ∈ js, j ∈ vs) : wipe σ2 vs = wipe σ vs := by
  apply List.ext_getElem?
  intro i
  rw [wipe_get, wipe_get]
  have hl : σ2.length = σ.length := h.1.trans (wipe_length σ vs)
  rw [hl]
  split
  · rfl
  · rename_i hi
    rw [h.2 i fun z => hi (hj i z), wipe_get, if_neg hi]
def junkT (T : Tmp) : Tmp := T.map fun t => match t.1 with
  | .loc _ => (.junk, t.2)
  | _ => t
theorem junk_tE (T : Tmp) : tE (junkT T) = tE T := by
  unfold tE junkT
  rw [List.map_map]
  apply List.map_congr_left
  intro t _
  obtain ⟨r, v⟩ := t
  cases r <;> rfl
theorem junk_tV (T : Tmp) : tV (junkT T) = tV T := by
  unfold tV junkT
  rw [List.map_map]
  apply List.map_congr_left
  intro t _
  obtain ⟨r, v⟩ := t
  cases r <;> rfl
theorem junk_noLoc (T : Tmp) : NoLoc (junkT T) := fun t ht i z => by
  obtain ⟨⟨r, v⟩, _, q⟩ := List.mem_map.mp ht
  cases r <;> (dsimp only at q; rw [← q] at z; cases z)
theorem okSlot_ne {e : DEnv} {i j : Nat} {d : D} (h : okSlot e i = true) (q : e[j]? = some (some (.io, d))) : i ≠ j := by
  rintro rfl; exact okSlot_io h q
/-- the own slots of a comprehension forgotten -/
theorem RepM.wipe {K : PySem.W.Frag} {P B M : Hp} {ios : List (Nat × V)} {e : DEnv} {σ : L2.St} {T : Tmp} {H : Hp} {vs : List Nat} (r : RepM K P B M ios e σ T H) (hv : ∀ j w, (j, w) ∈ ios → j ∉ vs) :
    RepM K P B M ios (wipeE e vs) (wipe σ vs) (junkT T) H := by
  refine ⟨?_, by rw [wipeE_len, wipe_length]; exact r.el, fun i v q => absurd rfl (junk_noLoc T _ q i), fun j w q => ?_⟩
  · rw [junk_tE, junk_tV]
    refine r.c.forget2 (by simp [wipeE_len]) (by simp [wipe_length]) fun i x q => ?_
    by_cases hi : i < e.length
    · rw [List.getElem?_append_left (by rw [wipeE_len]; exact hi)] at q
      obtain ⟨q1, q2⟩ := wipeE_get q
      refine ⟨left_get q1, ?_⟩
      rw [List.getElem?_append_left (by rw [wipe_length, ← r.el]; exact hi), List.getElem?_append_left (by rw [← r.el]; exact hi), wipe_out q2]
    · rw [List.getElem?_append_right (by rw [wipeE_len]; omega), wipeE_len] at q
      rw [List.getElem?_append_right (by omega)]
      refine ⟨q, ?_⟩
      rw [List.getElem?_append_right (by rw [wipe_length, ← r.el]; omega), List.getElem?_append_right (by rw [← r.el]; omega), wipe_length]
  · obtain ⟨s, d, q'⟩ := r.io j w q
    have hj : j ∉ vs := hv j w q
    refine ⟨by rw [wipe_out hj]; exact s, d, ?_⟩
    have : ∀ vs : List Nat, j ∉ vs → (wipeE e vs)[j]? = some (some (.io, d)) := by
      intro vs
      induction vs with
      | nil => intro _; exact q'
      | cons v vs ih =>
        intro h
        simp only [List.mem_cons, not_or] at h
        unfold wipeE
        rw [List.getElem?_set, if_neg fun z => h.1 z.symm]
        exact ih h.2
    exact this vs hj
theorem RepM.wipeK {K : PySem.W.Frag} {P B M : Hp} {ios : List (Nat × V)} {e : DEnv} {σ : L2.St} {T T' : Tmp} {H : Hp} {vs : List Nat} (r : RepM K P B M ios e σ (T ++ T') H) (hv : ∀ j w, (j, w) ∈ ios → j ∉ vs) (hT : NoLocJ vs T') :
    RepM K P B M ios (wipeE e vs) (L2.wipe σ vs) (junkT T ++ T') H := by
  have w := r.wipe hv
  refine ⟨?_, w.el, fun i v q => ?_, w.io⟩
  · have c := w.c
    rw [junk_tE, junk_tV] at c
    rw [tE_app, tV_app, junk_tE, junk_tV, ← tE_app, ← tV_app]
    exact c
  · rcases List.mem_append.mp q with q | q
    · exact absurd rfl (junk_noLoc T _ q i)
    · have hi : i ∉ vs := fun z => hT _ q i z rfl
      rw [wipe_out hi]
      exact r.loc i v (List.mem_append_right _ q)
/-- the saved ones -/
def savT (e : DEnv) (σ : L2.St) (vs : List Nat) : Tmp := vs.filterMap fun v => match e[v]?, σ[v]? with
  | some (some (.fz, d)), some (some w) => some (.fz d, w)
  | _, _ => none
theorem savT_fz (e : DEnv) (σ : L2.St) (vs : List Nat) : AllFz (savT e σ vs) := fun t ht => by
  obtain ⟨v, _, q⟩ := List.mem_filterMap.mp ht
  try dsimp only at q
  split at q
  · cases q; exact ⟨_, rfl⟩
  · cases q
theorem RepM.sav {K : PySem.W.Frag} {P B M : Hp} {ios : List (Nat × V)} {e : DEnv} {σ : L2.St} {H : Hp} {T' : Tmp} (r : RepM K P B M ios e σ T' H) {ios2 : List (Nat × V)} {e2 : DEnv} {σ2 : L2.St} : ∀ {vs : List Nat} {T : Tmp}, RepM K P B M ios2 e2 σ2 T H → RepM K P B M ios2 e2 σ2 (T ++ savT e σ vs) H
  | [], T, r2 => by simpa [savT] using r2
  | v :: vs, T, r2 => by
    unfold savT
    rw [List.filterMap_cons]
    try dsimp only
    split
    · exact RepM.sav r r2
    · rename_i t q
      split at q
      · rename_i d w q1 q2
        cases q
        obtain ⟨w', s, f⟩ := r.fzS q1
        rw [q2] at s; cases s
        have := RepM.sav r (vs := vs) (r2.push_fz f)
        simpa [savT] using this
      · cases q
theorem restE_len (e1 e2 : DEnv) : ∀ vs, (restE e1 e2 vs).length = e2.length
  | [] => rfl
  | v :: vs => by
    unfold restE
    split
    · rw [List.length_set, restE_len e1 e2 vs]
    · exact restE_len e1 e2 vs
/-- back from a comprehension's block -/
theorem RepM.unwipe {K : PySem.W.Frag} {P B M M1 : Hp} {ios : List (Nat × V)} {e1 e2 : DEnv} {σ : L2.St} {T T1 : Tmp} {H H1 : Hp} {vs : List Nat} (r0 : RepM K P B M1 ios e1 σ T1 H1) (hT : ∀ i v, (Res.loc i, v) ∈ T → (Res.loc i, v) ∈ T1) (hv : ∀ v ∈ vs, okSlot e1 v = true) (hl : e2.length = e1.length)
    (r : RepM K P B M ios e2 (L2.wipe σ vs) (junkT T) H) (h2 : ∀ v ∈ vs, ∀ x, e2[v]? ≠ some (some x)) (hs : ∀ t ∈ savT e1 σ vs, ∀ d w, t = (.fz d, w) → Fz K M d w) : RepM K P B M ios (restE e1 e2 vs) σ T H := by
  have step1 : RepC K P B M (e2 ++ tE T) (σ ++ tV T) H := by
    have c := r.c
    rw [junk_tE, junk_tV] at c
    refine c.forget2 rfl (by simp [wipe_length]) fun i x q => ⟨q, ?_⟩
    by_cases hi : i < e2.length
    · rw [List.getElem?_append_left hi] at q
      have hn : i ∉ vs := fun z => h2 i z x q
      rw [List.getElem?_append_left (by rw [← r0.el]; omega), List.getElem?_append_left (by rw [wipe_length, ← r0.el]; omega), wipe_out hn]
    · rw [List.getElem?_append_right (by rw [← r0.el]; omega), List.getElem?_append_right (by rw [wipe_length, ← r0.el]; omega), wipe_length]
  have step2 : ∀ us : List Nat, (∀ u ∈ us, u ∈ vs) → RepC K P B M (restE e1 e2 us ++ tE T) (σ ++ tV T) H := by
    intro us
    induction us with
    | nil => intro _; exact step1
    | cons u us ih =>
      intro hu
      have ih := ih fun x hx => hu x (List.mem_cons_of_mem _ hx)
      unfold restE
      split
      · rename_i x d q
        obtain ⟨w, s, _⟩ := r0.fzS q
        have hlt := (List.getElem?_eq_some_iff.mp q).1
        have f : Fz K M d w := hs (.fz d, w) (by
          refine List.mem_filterMap.mpr ⟨u, hu u (by simp), ?_⟩
          try dsimp only
          rw [q, s]) d w rfl
        have := ih.set_fz (i := u) f
        rw [set_left (by rw [restE_len]; omega), set_same (show (σ ++ tV T)[u]? = some (some w) from left_get s)] at this
        exact this
      · exact ih
  refine ⟨step2 vs fun _ h => h, by rw [restE_len, hl]; exact r0.el, fun i v q => r0.loc i v (hT i v q), fun j w q => ?_⟩
  obtain ⟨s, d, q'⟩ := r0.io j w q
  obtain ⟨s2, d2, q2⟩ := r.io j w q
  have hj : j ∉ vs := fun z => okSlot_ne (hv j z) q' rfl
  refine ⟨s, d2, ?_⟩
  have : ∀ us : List Nat, j ∉ us → (restE e1 e2 us)[j]? = some (some (.io, d2)) := by
    intro us
    induction us with
    | nil => intro _; exact q2
    | cons u us ih =>
      intro h
      simp only [List.mem_cons, not_or] at h
      unfold restE
      split
      · rw [List.getElem?_set, if_neg fun z => h.1 z.symm]; exact ih h.2
      · exact ih h.2
  exact this vs hj
theorem junk_app (T T' : Tmp) : junkT (T ++ T') = junkT T ++ junkT T' := List.map_append
theorem junk_of {T : Tmp} (h : NoLoc T) : junkT T = T := by
  unfold junkT
  conv => rhs; rw [← List.map_id T]
  apply List.map_congr_left
  intro t ht
  obtain ⟨r, v⟩ := t
  cases r with
  | loc i => exact absurd rfl (h _ ht i)
  | _ => rfl
structure FTs (X : Cx) (e : List Expr) (f : DT) : Prop where
  pt : PTs X e (ttOf X.K f)
  mono : ∀ e Q Q', (∀ r e', Q r e' → Q' r e') → f e Q → f e Q'
theorem pts_imp {X : Cx} {e : List Expr} {t t' : TT} (h : PTs X e t) (i : ∀ σ H Q, t' σ H Q → t σ H Q) : PTs X e t' := ⟨fun pins s σ H Q I q => h.run pins s σ H Q I (i _ _ _ q)⟩
def wYes : DT := fun e Q => Q true e
theorem fts_nil {X : Cx} : FTs X [] wYes := by
  refine ⟨pts_imp pts_nil ?_, fun e Q Q' h w => h _ _ w⟩
  rintro σ H Q ⟨P, B, ios, e, T, r, w⟩
  exact w H r
theorem fts_one {X : Cx} {c : Expr} {t : DT} (h : FT X c t) : FTs X [c] t := ⟨pts_one h.pt, h.mono⟩
/-- a temp that is owned is changed -/
theorem RepM.mutT {K : PySem.W.Frag} {P B M : Hp} {ios : List (Nat × V)} {e : DEnv} {σ : L2.St} {T T2 : Tmp} {H : Hp} {d d' : D} {p : Addr} {o : HO} (r : RepM K P B M ios e σ (T ++ (.ow d, .ref p) :: T2) H) (hM : M p = none) (h' : OwnAt K M (upd H p o) d' p) :
    RepM K P B M ios e σ (T ++ (.ow d', .ref p) :: T2) (upd H p o) := by
  have ht : (T ++ (Res.ow d, V.ref p) :: T2)[T.length]? = some (.ow d, .ref p) := by simp
  obtain ⟨t1, t2⟩ := r.tget ht
  have c := r.c.mutate t1 rfl t2 hM h'
  refine ⟨?_, r.el, fun i v q => r.loc i v (mem_mid q (by intro z; cases z)), r.io⟩
  have e1 : (e ++ tE (T ++ (Res.ow d, V.ref p) :: T2)).set (e.length + T.length) (some (.ow, d')) = e ++ tE (T ++ (Res.ow d', V.ref p) :: T2) := by
    rw [tE_app, tE_app, ← List.append_assoc, ← List.append_assoc]
    show ((e ++ tE T) ++ tS (.ow d) :: tE T2).set _ _ = _
    rw [set_midd (by simp [tE_len])]
    rfl
  rw [e1] at c
  have e2 : tV (T ++ (Res.ow d', V.ref p) :: T2) = tV (T ++ (Res.ow d, V.ref p) :: T2) := by rw [tV_app, tV_app]; rfl
  rw [e2]
  exact c
theorem lc_run {tg iter elt : Expr} {ifs : List Expr} {js vs : List Nat} {fi : DIc} {gd : DG} {t : DT} {f : DE} (hi : ∀ e (Q Q' : List Res → (DEnv → Prop) → List Nat → DEnv → Prop), (∀ r st ls e', Q r st ls e' → Q' r st ls e') → fi e Q → fi e Q')
    (hg : ∀ r e Q Q', (∀ e', Q e' → Q' e') → gd r e Q → gd r e Q') (ht : ∀ e Q Q', (∀ r e', Q r e' → Q' r e') → t e Q → t e Q') (hf : ∀ e Q Q', (∀ r e', Q r e' → Q' r e') → f e Q → f e Q') (hj : ∀ j ∈ js, j ∈ vs) (σ : L2.St) (H : Hp) (Q : VK) :
    tOf X.K (wLc fi gd t f vs) σ H Q → tLc (iOfC X.K fi) (gOf X.K js gd) (ttOf X.K t) (tOf X.K f) vs σ H Q := by
  rintro ⟨P, B, ios, e, T, r, w⟩
  refine ⟨P, B, ios, e, T, r, hi _ _ _ (fun items st ls e1 w1 J H1 T' hfz r1 wk p hp => ?_) w⟩
  obtain ⟨hlen, hok2, w1⟩ := w1
  have hok : ∀ v ∈ vs, okSlot e1 v = true := fun v hv => (hok2 v hv).1
  have hls : NoLocJ vs T' := hfz.j fun v hv => (hok2 v hv).2
  obtain ⟨M1, m1⟩ := r1
  have hio : ∀ j w, (j, w) ∈ ios → j ∉ vs := fun j w q z => by
    obtain ⟨_, d, q'⟩ := m1.io j w q
    exact okSlot_ne (hok j z) q' rfl
  have m2 := m1.wipeK hio hls
  have m3 := m1.sav (vs := vs) m2
  have hS := savT_fz e1 σ vs
  generalize hT0 : junkT T ++ T' ++ savT e1 σ vs = T0 at m3
  have nl0 : NoLocJ vs T0 := by rw [← hT0]; exact (((junk_noLoc T).j vs).app hls).app (hS.noLoc.j vs)
  have wipe0 : ∀ {M' : Hp} {e' : DEnv} {σ' : L2.St} {T1 : Tmp} {H' : Hp}, NoLocJ vs T1 → RepM X.K P B M' ios e' σ' T1 H' → RepM X.K P B M' ios (wipeE e' vs) (L2.wipe σ' vs) T1 H' := fun h r => by
    have := RepM.wipeK (T := []) r hio h
    exact this
  have hT' : ∀ x ∈ T', x ∈ T0 := fun x hx => by rw [← hT0]; exact List.mem_append_left _ (List.mem_append_right _ hx)
  have m4 : RepM X.K P B M1 ios (wipeE e1 vs) (L2.wipe σ vs) (T0 ++ [(.ow (.list []), .ref p)]) (upd H1 p (.lst [])) :=
    (m3.alloc hp).push_ow ⟨[], upd_same, .nil⟩ (.inl (m3.mh.none hp)) (m3.c.ph.none hp) fun i k d' h hk => m3.c.ne_new hp h hk
  have none_of : ∀ (e2 : DEnv), ∀ v ∈ vs, ∀ x, (wipeE e2 vs)[v]? ≠ some (some x) := fun e2 v hv x q => (wipeE_get q).2 hv
  refine ⟨fun i m H' => m = items.length - i ∧ i ≤ items.length ∧ ∃ e2 acc, Rep X.K P B ios e2 (L2.wipe σ vs) (T0 ++ [(.ow (.list acc), .ref p)]) H' ∧ acc.length ≤ i ∧ (∀ v ∈ vs, ∀ x, e2[v]? ≠ some (some x)) ∧
    lcL gd t f vs st (fun acc e2 => ∀ v H', Rep X.K P B ios (restE e1 e2 vs) σ (T ++ [(.ow (.list acc), v)]) H' → Q v H') (items.drop i) acc e2, ⟨items.length, by omega, by omega, _, [], ⟨M1, m4⟩, Nat.le_refl _, none_of e1, by simpa using w1⟩, ?_⟩
  rintro i m H2 ⟨rfl, hle, e2, acc, r2, hacc, hn2, w2⟩
  have nlo : NoLoc [((Res.ow (.list acc)), V.ref p)] := fun t ht i z => by
    rw [List.mem_singleton] at ht
    rw [ht] at z
    cases z
  by_cases hlt : i < items.length
  · have hd : items.drop i = items[i] :: items.drop (i + 1) := List.drop_eq_getElem_cons hlt
    rw [hd] at w2
    obtain ⟨ws2, w2⟩ := w2
    obtain ⟨hgo, hyl⟩ := (wk (T0 ++ [(.ow (.list acc), .ref p)]) fun x hx => List.mem_append_left _ (hT' x hx)).go i ios (L2.wipe σ vs) e2 [] H2 items[i] (by simpa using r2) ws2 (List.getElem?_eq_getElem hlt)
    refine .inr ⟨hgo, fun H' => ∃ e2 acc, Rep X.K P B ios e2 (L2.wipe σ vs) (T0 ++ [(.ow (.list acc), .ref p)]) H' ∧ acc.length ≤ i + 1 ∧ (∀ v ∈ vs, ∀ x, e2[v]? ≠ some (some x)) ∧
      lcL gd t f vs st (fun acc e2 => ∀ v H', Rep X.K P B ios (restE e1 e2 vs) σ (T ++ [(.ow (.list acc), v)]) H' → Q v H') (items.drop (i + 1)) acc e2, fun H' hN => ⟨items.length - (i + 1), by omega, rfl, hlt, hN⟩, fun x H3 hy => ?_⟩
    have r3 : Rep X.K P B ios e2 (L2.wipe σ vs) (T0 ++ [(.ow (.list acc), .ref p)] ++ [(items[i], x)]) H3 := by simpa using hyl x H3 hy
    refine ⟨P, B, ios, e2, _, items[i], (nl0.sub hj).app (nlo.j _), r3, hg _ _ _ _ (fun e3 w3 σ3 H4 sm r4 => ⟨wipe_same sm hj, ?_⟩) w2⟩
    have ws : L2.wipe σ3 vs = L2.wipe σ vs := wipe_same sm hj
    refine ⟨P, B, ios, e3, _, r4, ht _ _ _ (fun k e4 w4 H5 r5 => ?_) w3⟩
    cases k with
    | false =>
      refine iteF ⟨wipeE e4 vs, acc, ?_, by omega, none_of e4, by simpa using w4⟩
      obtain ⟨M5, m5⟩ := r5
      have := wipe0 (nl0.app (nlo.j _)) m5
      rw [ws] at this
      exact ⟨M5, this⟩
    | true =>
      refine iteT ⟨P, B, ios, e4, _, r5, hf _ _ _ (fun rr e5 w5 y H6 r6 => ?_) ((if_pos (rfl : true = true)).mp w4)⟩
      obtain ⟨yd, e6, hfr, w6⟩ := w5
      obtain ⟨M6, m6⟩ := r6
      obtain ⟨M7, x7, m7, f7⟩ := m6.freezeAt (T2 := []) hfr
      obtain ⟨q, hq, ow, hm, _⟩ := m7.tow (d := .list acc) (v := .ref p) (by simp)
      cases hq
      obtain ⟨us, hus, fl⟩ := ow
      have m8 := RepM.mutT (T := T0) (T2 := [(Res.fz yd, y)]) (d' := .list (acc ++ [yd])) (o := .lst (us ++ [y])) (by simpa using m7) (hm.none fun _ z => nomatch z) ⟨_, upd_same, fl.append (.cons f7 .nil)⟩
      have m9 : RepM X.K P B M7 ios e6 σ3 (T0 ++ [(.ow (.list (acc ++ [yd])), .ref p)]) (upd H6 p (.lst (us ++ [y]))) := by
        have : RepM X.K P B M7 ios e6 σ3 (T0 ++ [(.ow (.list (acc ++ [yd])), .ref p)] ++ [(Res.fz yd, y)]) (upd H6 p (.lst (us ++ [y]))) := by simpa using m8
        exact this.popN
      have nlo2 : NoLoc [((Res.ow (.list (acc ++ [yd]))), V.ref p)] := fun t ht i z => by
        rw [List.mem_singleton] at ht
        rw [ht] at z
        cases z
      have m10 := wipe0 (nl0.app (nlo2.j _)) m9
      rw [ws] at m10
      have hul := fl.length
      exact ⟨us, hus, Nat.lt_of_lt_of_le (by omega : us.length < 100001) (by decide), wipeE e6 vs, acc ++ [yd], ⟨M7, m10⟩, by simp; omega, none_of e6, w6⟩
  · have hi' : i = items.length := by omega
    subst hi'
    rw [List.drop_length] at w2
    obtain ⟨ws2, w2⟩ := w2
    refine .inl ⟨(wk (T0 ++ [(.ow (.list acc), .ref p)]) fun x hx => List.mem_append_left _ (hT' x hx)).stop _ ios (L2.wipe σ vs) e2 [] H2 (by simpa using r2) ws2 (Nat.le_refl _), w2 (.ref p) H2 ?_⟩
    obtain ⟨M2, m2'⟩ := r2
    have hel : e2.length = e1.length := by rw [m2'.el, wipe_length, ← m1.el]
    have ms : RepM X.K P B M2 ios e2 (L2.wipe σ vs) (junkT T ++ (T' ++ savT e1 σ vs) ++ [(.ow (.list acc), .ref p)]) H2 := by rw [← hT0] at m2'; simpa using m2'
    have mm := ms.mid
    refine ⟨M2, m1.unwipe (T := T ++ [(.ow (.list acc), .ref p)]) (e2 := e2) (fun i v q => ?_) hok hel ?_ hn2 fun t ht' d w hq => ?_⟩
    · rcases List.mem_append.mp q with q | q
      · exact List.mem_append_left _ q
      · simp at q
    · rw [junk_app, junk_of nlo]; exact mm
    · subst hq
      exact ms.tfz (d := d) (v := w) (List.mem_append_left _ (List.mem_append_right _ (List.mem_append_right _ ht')))
theorem fe_lc {tg iter elt : Expr} {ifs : List Expr} {scope : Scope} {own : List (Str × Nat)} {js : List Nat} {fi : DIc} {gd : DG} {t : DT} {f : DE} (hc : X.calm = true) (hN : X.N.Nodup) (hi : FIc X tg iter fi) (ok : BlkOk X.N X.env.scope scope own)
    (hg : ∀ (s : Shared) (H : Hp) (C : Addr) (cl : List (Str × Addr)) (fp : List Addr), FG (X.blk s H scope (compEnvC scope cl C X.env) fp) tg js gd) (ht : ∀ (s : Shared) (H : Hp) (C : Addr) (cl : List (Str × Addr)) (fp : List Addr), FTs (X.blk s H scope (compEnvC scope cl C X.env) fp) ifs t)
    (he : ∀ (s : Shared) (H : Hp) (C : Addr) (cl : List (Str × Addr)) (fp : List Addr), FE (X.blk s H scope (compEnvC scope cl C X.env) fp) elt f) (hj : ∀ j ∈ js, j ∈ own.map (·.2)) (hs : ∀ x, foldedSetIterable iter X.env x = pure x := by intro _; rfl) :
    FE X (.ListComp elt [⟨tg, iter, ifs, 0⟩] scope pos) (wLc fi gd t f (own.map (·.2))) := by
  have s0 : Shared := {}
  have gm := (hg s0 (fun _ => none) 0 [] []).mono
  have tm := (ht s0 (fun _ => none) 0 [] []).mono
  have fm := (he s0 (fun _ => none) 0 [] []).mono
  refine ⟨pe_imp (pe_lc hc hN hi.pi ok (fun s H C cl fp => (hg s H C cl fp).pg) (fun s H C cl fp => (ht s H C cl fp).pt) (fun s H C cl fp => (he s H C cl fp).pe) hs) (lc_run (tg := tg) (iter := iter) (elt := elt) (ifs := ifs) hi.mono gm tm fm hj), fun e Q Q' h w => ?_⟩
  refine hi.mono _ _ _ (fun items st ls e1 w1 => ?_) w
  exact ⟨w1.1, w1.2.1, lcL_mono gm tm fm (fun acc e2 w2 => h _ _ w2) _ _ _ w1.2.2⟩
/-- name = [..] on one line, the name a local -/
theorem fs_setLc {i : Nat} {y : Str} {py : Pos} {tg iter elt : Expr} {ifs : List Expr} {scope : Scope} {own : List (Str × Nat)} {js : List Nat} {fi : DIc} {gd : DG} {t : DT} {f : DE} {spos : Pos} (hc : X.calm = true) (hN : X.N.Nodup) (hy : X.N[i]? = some y) (hyl : X.env.scope.names.lookup y = some .local)
    (hsw : swapsWith (.ListComp elt [⟨tg, iter, ifs, 0⟩] scope pos) (some (.Name y py)) spos.line X.env = pure true) (hi : FIc X tg iter fi) (ok : BlkOk X.N X.env.scope scope own)
    (hg : ∀ (s : Shared) (H : Hp) (C : Addr) (cl : List (Str × Addr)) (fp : List Addr), FG (X.blk s H scope (compEnvC scope cl C X.env) fp) tg js gd) (ht : ∀ (s : Shared) (H : Hp) (C : Addr) (cl : List (Str × Addr)) (fp : List Addr), FTs (X.blk s H scope (compEnvC scope cl C X.env) fp) ifs t)
    (he : ∀ (s : Shared) (H : Hp) (C : Addr) (cl : List (Str × Addr)) (fp : List Addr), FE (X.blk s H scope (compEnvC scope cl C X.env) fp) elt f) (hj : ∀ j ∈ js, j ∈ own.map (·.2)) (hs : ∀ x, foldedSetIterable iter X.env x = pure x := by intro _; rfl) :
    FS X (.Assign [.Name y py] (.ListComp elt [⟨tg, iter, ifs, 0⟩] scope pos) spos) (wAsg (wLc fi gd t f (own.map (·.2))) (asgn i)) := by
  have s0 : Shared := {}
  have gm := (hg s0 (fun _ => none) 0 [] []).mono
  have tm := (ht s0 (fun _ => none) 0 [] []).mono
  have fm := (he s0 (fun _ => none) 0 [] []).mono
  refine fs_setT (ps_setLc hc hN hy hyl hsw hi.pi ok (fun s H C cl fp => (hg s H C cl fp).pg) (fun s H C cl fp => (ht s H C cl fp).pt) (fun s H C cl fp => (he s H C cl fp).pe) hs) (lc_run (tg := tg) (iter := iter) (elt := elt) (ifs := ifs) hi.mono gm tm fm hj) fun e Q Q' h w => ?_
  refine hi.mono _ _ _ (fun items st ls e1 w1 => ?_) w
  exact ⟨w1.1, w1.2.1, lcL_mono gm tm fm (fun acc e2 w2 => h _ _ w2) _ _ _ w1.2.2⟩
end
end PL
set_option Elab.async false
set_option linter.all false
set_option autoImplicit false
set_option maxRecDepth 100000
set_option maxHeartbeats 4000000
/-! PLf: defs: what they promise over data, their bodies, their calls; the law's own call. No guard (a repr that runs) stands around. -/
namespace PL
open PySem PySem.Spec PyProof.Rows L2

/-- a def keeps its promise wherever no repr runs around it -/
structure FnG (pr : Program) (wo : World) (K : PySem.W.Frag) (mg : Str → Option Value) (base : Heap) (CX : CXT) (lv : Nat) (f : Addr) (fd : FuncData) (ps : List Str) (sp : Sp) : Prop where
  arity : ∀ vs H Q E, sp vs H Q E → vs.length = ps.length
  go : ∀ (Ar : Around) (out : List Env) (st : Shared) (H : Hp) (ag : Args) (us : List Value) (vs : List V) (Q : VK) (E : XK), Ar.guards = some [] → Room lv Ar → Env0 pr wo K mg base Ar out st H →
    BindsTo st fd ag (ps.zip us) → Vals vs us → sp vs H Q E → codeAny (model pr wo) Ar (.call (.ref f) ag) (CR CX out pr wo H st Q E) st
theorem FnG.up {pr : Program} {wo : World} {K : PySem.W.Frag} {mg : Str → Option Value} {base : Heap} {CX : CXT} {lv lw : Nat} {f : Addr} {fd : FuncData} {ps : List Str} {sp : Sp} (F : FnG pr wo K mg base CX lv f fd ps sp) (h : lv ≤ lw) : FnG pr wo K mg base CX lw f fd ps sp :=
  ⟨F.arity, fun Ar out st H ag us vs Q E g rm => F.go Ar out st H ag us vs Q E g (rm.mono h)⟩
section
variable {pr : Program} {wo : World} {K : PySem.W.Frag} {mg : Str → Option Value} {base : Heap} {CX : CXT} {lv : Nat} {f : Addr} {fd : FuncData} {ps N : List Str} {sp : Sp}
theorem FnG.of_body {x qual : Str} {pa : Arguments} {bd : List Stmt} {sc : Scope} {dvs : List V} {kws : List (Str × V)} (F : FunD K x qual pa bd sc dvs kws f fd) (S : FnScope N ps sc) (ar : ∀ vs H Q E, sp vs H Q E → vs.length = ps.length)
    (hb : ∀ (cdv : Value) (Ar : Around) (out : List Env) (st : Shared) (H : Hp) (vs : List V) (Q : VK) (E : XK), (Ar.deeper (envOfC qual sc st.heap.objs.size f cdv)).guards = some [] → Room lv (Ar.deeper (envOfC qual sc st.heap.objs.size f cdv)) → sp vs H Q E →
      ∃ t, PSs (cxOf CX pr wo K mg base N qual sc f cdv Ar out st H E) bd t ∧ t { nx := fun _ H' => Q .non H', rt := Q } (start N vs) H) : FnG pr wo K mg base CX (lv + 1) f fd ps sp := by
  obtain ⟨oc, od, dV, kV, doc, pm, an, cdv, ct, osl, hfd, lk, hcd, _, _⟩ := F.ex
  subst hfd
  refine ⟨ar, fun Ar out st H ag us vs Q E hg rm en bi rv hs => ?_⟩
  have n1 := ar _ _ _ _ hs
  have inK : K.In st.heap := en.mod.kin.keeps fun a o q => (en.bs a o q).1
  have noL : st.heap.NoLimit := en.mod.nolimit.keeps fun a o q => (en.bs a o q).1
  have kinds : ∀ y ∈ ps.zip us, sc.names.lookup y.1 = some .local ∨ (sc.names.lookup y.1 = some .cell ∧ ((cellsFrom (st.heap.objs.size + 1) sc.names []).lookup y.1).isSome = true) := by
    rintro ⟨nm, u⟩ hy
    cases S.par nm (List.of_mem_zip hy).1 with
    | inl q => exact Or.inl q
    | inr q => exact Or.inr ⟨q, PySem.W.cellsFrom_some _ _ _ (Or.inl q)⟩
  apply codeAny_call_function rm.depth (inK _ _ lk) rfl S.co S.gen rfl (PySem.W.codeRec_of inK hcd)
  apply bi
  apply wpAny_newFunctionEnv_cells S.kind kinds
  intro ev hev s1 ic
  subst hev
  refine ⟨noL.keeps ic.toInCall.keep, codeAny_func ?_⟩
  obtain ⟨t, pt, tq⟩ := hb cdv Ar out st H vs Q E hg (rm.deeper _) hs
  have i0 : Inv (cxOf CX pr wo K mg base N qual sc f cdv Ar out st H E) [] (start N vs) H s1 := inv_start S rm.hd en n1 rv ic
  refine wpAny_mono (pt.run [] s1 (start N vs) H _ i0 tq) ?_ (fun _ _ q => q)
  intro fl s2 q
  cases fl with
  | ret u =>
    obtain ⟨v, _, H2, J, rr, q⟩ := q
    exact ⟨v, H2, J.os, J.bare, J.base, J.hok, rr, q⟩
  | next =>
    obtain ⟨_, H2, J, q⟩ := q
    exact ⟨.non, H2, J.os, J.bare, J.base, J.hok, rfl, q⟩
  | brk => exact q.elim fun _ q => q.elim fun _ q => q.2.elim
  | cont => exact q.elim fun _ q => q.elim fun _ q => q.2.elim
end
section
variable {X : Cx} {CX : CXT} {lv : Nat} {f : Addr} {fd : FuncData} {ps : List Str} {sp : Sp} {E : XK} {x : Str} {p pos : Pos} {e : Expr} {es : List Expr} {t : TA}
theorem pe_callG (F : FnG X.prog X.w X.K X.mg X.base CX lv f fd ps sp) (hG : X.A.guards = some []) (rm : Room lv X.A) (hg : Gl X x) (hm : X.mg x = some (.ref f)) (hk : PySem.W.keepIn X.K (.ref f) = true) (hb : Binds X.K fd ps []) (hx : Passes CX X E)
    (ha : PA X (e :: es) t) (hdb : (x == ("__debug__" : Str)) = false := by decide) (he : starEach (e :: es) X.env = (false, eval e X.env) :: starEach es X.env := by rfl) (hpl : (backTo pos (starEach es X.env)).any (·.1) = false := by rfl) :
    PE X (.Call (.Name x p) (e :: es) [] pos) (tCall sp [] E t) := by
  constructor
  intro pins s σ H Q I h
  apply wpAny_Call_Name_kw (ld_glob I hg hm ?_ hdb)
  apply PySem.W.callWith_K (h₀ := X.base) I.ok.mod.kin hk (thn (ha.run pos pins s σ H _ I h) ?_) he hpl
  intro us s1 q
  obtain ⟨vs, H1, I1, rv, q⟩ := q
  refine ⟨I1.kIn, ?_⟩
  rw [List.append_nil] at q
  have hl : (us ++ []).length = ps.length := by rw [List.append_nil, ← rv.length]; exact F.arity _ _ _ _ q
  have bi := hb s1 us I1.kIn hl
  rw [List.append_nil] at bi
  refine wpAny_call (codeAny_mono (F.go X.A X.stack s1 H1 ⟨us, []⟩ us vs Q E hG rm I1.env0 bi rv q) ?_)
  intro r s2 hq
  cases r with
  | error z => exact hx pins σ H1 s1 z s2 I1 hq
  | ok fl =>
    cases fl with
    | ret u => exact I1.after hq
    | next => exact (show False from hq).elim
    | brk => exact (show False from hq).elim
    | cont => exact (show False from hq).elim
theorem pe_callG0 (F : FnG X.prog X.w X.K X.mg X.base CX lv f fd ps sp) (hG : X.A.guards = some []) (rm : Room lv X.A) (hg : Gl X x) (hm : X.mg x = some (.ref f)) (hk : PySem.W.keepIn X.K (.ref f) = true) (hb : Binds X.K fd ps []) (hx : Passes CX X E)
    (hdb : (x == ("__debug__" : Str)) = false := by decide) : PE X (.Call (.Name x p) [] [] pos) (tCall sp [] E tNil) := by
  constructor
  intro pins s σ H Q I h
  apply wpAny_Call_Name_kw (ld_glob I hg hm ?_ hdb)
  have h : sp ([] ++ []) H Q E := h
  have hl : (([] : List Value) ++ []).length = ps.length := (F.arity _ _ _ _ h).symm ▸ rfl
  have bi := hb s [] I.kIn hl
  apply PySem.W.callWith_K0 I.kIn hk
  refine wpAny_call (codeAny_mono (F.go X.A X.stack s H ⟨[], []⟩ [] [] Q E hG rm I.env0 bi .nil h) ?_)
  intro r s2 hq
  cases r with
  | error z => exact hx pins σ H s z s2 I hq
  | ok fl =>
    cases fl with
    | ret u => exact I.after hq
    | next => exact (show False from hq).elim
    | brk => exact (show False from hq).elim
    | cont => exact (show False from hq).elim
end

/-! ### promises over data -/
def Res.good : Res → Bool
  | .fz _ => true
  | .ow _ => true
  | _ => false
theorem Res.good_loc {r : Res} (h : r.good = true) (i : Nat) : r ≠ .loc i := by
  rintro rfl; cases h
abbrev DSp := List D → (Res → List D → Prop) → Prop
def argE : List Kd → List D → DEnv
  | k :: ks, d :: ds => some (k, d) :: argE ks ds
  | _, _ => []
def outE : List Kd → List D → DEnv
  | .io :: ks, d :: ds => some (.io, d) :: outE ks ds
  | _ :: ks, _ :: ds => none :: outE ks ds
  | _, _ => []
def iosFrom : Nat → List Kd → List V → List (Nat × V)
  | i, .io :: ks, v :: vs => (i, v) :: iosFrom (i + 1) ks vs
  | i, _ :: ks, _ :: vs => iosFrom (i + 1) ks vs
  | _, _, _ => []
abbrev iosOf (ks : List Kd) (vs : List V) : List (Nat × V) := iosFrom 0 ks vs
def outsFrom : Nat → List Kd → DEnv → List D
  | i, .io :: ks, e => (match e[i]? with
    | some (some (.io, d)) => d
    | _ => .none) :: outsFrom (i + 1) ks e
  | i, _ :: ks, e => .none :: outsFrom (i + 1) ks e
  | _, [], _ => []
abbrev outsOf (ks : List Kd) (e : DEnv) : List D := outsFrom 0 ks e
/-- the promise of a def whose parameters are of these kinds -/
def spOf (K : PySem.W.Frag) (ks : List Kd) (g : DSp) : Sp := fun vs H Q _ => ∃ P B ds, ds.length = ks.length ∧ vs.length = ks.length ∧ Rep K P B (iosOf ks vs) (argE ks ds) (vs.map some) [] H ∧
  g ds fun r outs => r.good = true → outs.length = ks.length → ∀ v H', Rep K P B (iosOf ks vs) (outE ks outs) (vs.map some) [(r, v)] H' → Q v H'
theorem argE_len : ∀ {ks : List Kd} {ds : List D}, ds.length = ks.length → (argE ks ds).length = ks.length
  | [], [], _ => rfl
  | k :: ks, d :: ds, h => by simp only [argE, List.length_cons]; rw [argE_len (by simpa using h)]
  | [], _ :: _, h => by simp at h
  | _ :: _, [], h => by simp at h
theorem outE_len : ∀ {ks : List Kd} {ds : List D}, ds.length = ks.length → (outE ks ds).length = ks.length
  | [], [], _ => rfl
  | k :: ks, d :: ds, h => by
    have ih := outE_len (ks := ks) (ds := ds) (by simpa using h)
    cases k <;> simp only [outE, List.length_cons, ih]
  | [], _ :: _, h => by simp at h
  | _ :: _, [], h => by simp at h
theorem outsFrom_len : ∀ (i : Nat) (ks : List Kd) (e : DEnv), (outsFrom i ks e).length = ks.length
  | _, [], _ => rfl
  | i, k :: ks, e => by cases k <;> simp only [outsFrom, List.length_cons, outsFrom_len (i + 1) ks e]
theorem outE_get : ∀ {ks : List Kd} {ds : List D} {i : Nat} {x : Kd × D}, (outE ks ds)[i]? = some (some x) → ks[i]? = some .io ∧ ∃ d, ds[i]? = some d ∧ x = (.io, d)
  | [], [], i, x, h => by simp [outE] at h
  | k :: ks, d :: ds, i, x, h => by
    cases i with
    | zero => cases k <;> simp [outE] at h; subst h; exact ⟨rfl, d, rfl, rfl⟩
    | succ i =>
      have : (outE ks ds)[i]? = some (some x) := by cases k <;> simpa [outE] using h
      obtain ⟨a, d', b, c⟩ := outE_get this
      exact ⟨by simpa using a, d', by simpa using b, c⟩
  | [], _ :: _, i, x, h => by simp [outE] at h
  | k :: _, [], i, x, h => by cases k <;> simp [outE] at h
theorem argE_get : ∀ {ks : List Kd} {ds : List D} {i : Nat} {k : Kd} {d : D}, (argE ks ds)[i]? = some (some (k, d)) → ks[i]? = some k ∧ ds[i]? = some d
  | [], _, i, k, d, h => by simp [argE] at h
  | k0 :: ks, d0 :: ds, i, k, d, h => by
    cases i with
    | zero => simp [argE] at h; exact ⟨by simp [h.1], by simp [h.2]⟩
    | succ i =>
      obtain ⟨a, b⟩ := argE_get (ks := ks) (ds := ds) (i := i) (by simpa [argE] using h)
      exact ⟨by simpa using a, by simpa using b⟩
  | _ :: _, [], i, k, d, h => by simp [argE] at h
theorem argE_at : ∀ {ks : List Kd} {ds : List D} {i : Nat} {k : Kd} {d : D}, ks[i]? = some k → ds[i]? = some d → (argE ks ds)[i]? = some (some (k, d))
  | k0 :: ks, d0 :: ds, i, k, d, h, h' => by
    cases i with
    | zero => simp at h h'; subst h h'; rfl
    | succ i => simpa [argE] using argE_at (ks := ks) (ds := ds) (i := i) (by simpa using h) (by simpa using h')
  | [], _, i, k, d, h, _ => by simp at h
  | _ :: _, [], i, k, d, _, h => by simp at h
theorem outE_at : ∀ {ks : List Kd} {ds : List D} {i : Nat} {d : D}, ks[i]? = some .io → ds[i]? = some d → (outE ks ds)[i]? = some (some (.io, d))
  | k0 :: ks, d0 :: ds, i, d, h, h' => by
    cases i with
    | zero => simp at h h'; subst h h'; rfl
    | succ i =>
      have := outE_at (ks := ks) (ds := ds) (i := i) (by simpa using h) (by simpa using h')
      cases k0 <;> simpa [outE] using this
  | [], _, i, d, h, _ => by simp at h
  | _ :: _, [], i, d, _, h => by simp at h
theorem ios_mem : ∀ {i : Nat} {ks : List Kd} {vs : List V} {j : Nat} {v : V}, (j, v) ∈ iosFrom i ks vs ↔ ∃ m, j = i + m ∧ ks[m]? = some .io ∧ vs[m]? = some v
  | i, [], vs, j, v => by simp [iosFrom]
  | i, k :: ks, [], j, v => by cases k <;> simp [iosFrom]
  | i, k :: ks, u :: vs, j, v => by
    have ih := ios_mem (i := i + 1) (ks := ks) (vs := vs) (j := j) (v := v)
    have step : (∃ m, j = i + 1 + m ∧ ks[m]? = some .io ∧ vs[m]? = some v) ↔ ∃ m, j = i + (m + 1) ∧ (k :: ks)[m + 1]? = some .io ∧ (u :: vs)[m + 1]? = some v := by
      constructor
      · rintro ⟨m, h, a, b⟩; exact ⟨m, by omega, by simpa using a, by simpa using b⟩
      · rintro ⟨m, h, a, b⟩; exact ⟨m, by omega, by simpa using a, by simpa using b⟩
    cases k with
    | io =>
      simp only [iosFrom, List.mem_cons, ih, Prod.mk.injEq]
      constructor
      · rintro (⟨rfl, rfl⟩ | h)
        · exact ⟨0, by omega, rfl, rfl⟩
        · obtain ⟨m, a, b, c⟩ := step.mp h; exact ⟨m + 1, a, b, c⟩
      · rintro ⟨m, a, b, c⟩
        cases m with
        | zero => simp at c; exact .inl ⟨by omega, c.symm⟩
        | succ m => exact .inr (step.mpr ⟨m, a, b, c⟩)
    | fz | ow | sc =>
      simp only [iosFrom, ih]
      constructor
      · intro h; obtain ⟨m, a, b, c⟩ := step.mp h; exact ⟨m + 1, a, b, c⟩
      · rintro ⟨m, a, b, c⟩
        cases m with
        | zero => simp at b
        | succ m => exact step.mpr ⟨m, a, b, c⟩
theorem outs_at : ∀ {i : Nat} {ks : List Kd} {e : DEnv} {m : Nat} {d : D}, ks[m]? = some .io → e[i + m]? = some (some (.io, d)) → (outsFrom i ks e)[m]? = some d
  | i, [], e, m, d, h, _ => by simp at h
  | i, k :: ks, e, m, d, h, h' => by
    cases m with
    | zero =>
      simp at h; subst h
      have h' : e[i]? = some (some (.io, d)) := h'
      simp [outsFrom, h']
    | succ m =>
      have := outs_at (i := i + 1) (ks := ks) (e := e) (m := m) (d := d) (by simpa using h) (by rw [show i + 1 + m = i + (m + 1) by omega]; exact h')
      cases k <;> simpa [outsFrom] using this

/-! ### a def's body keeps its promise -/
def endsF (ks : List Kd) (Qd : Res → List D → Prop) : DEnds where
  nx := fun e => Qd (.fz .none) (outsOf ks e)
  rt := fun r e => r.good = true ∧ Qd r (outsOf ks e)
  bk := fun _ => False
  ct := fun _ => False
theorem RepC.push_nones {K : PySem.W.Frag} {P B M : Hp} {e : DEnv} {σ : L2.St} {H : Hp} (r : RepC K P B M e σ H) : ∀ n, RepC K P B M (e ++ List.replicate n none) (σ ++ List.replicate n none) H
  | 0 => by simpa using r
  | n + 1 => by
    have := (RepC.push_nones r n).push_none (v := none)
    simpa [List.replicate_succ', ← List.append_assoc] using this
/-- how the body's end is read outside -/
theorem rep_out {K : PySem.W.Frag} {P B : Hp} {ks : List Kd} {vs : List V} {e : DEnv} {σ : L2.St} {r : Res} {v : V} {H : Hp} (hg : r.good = true) (hl : vs.length = ks.length) (h : Rep K P B (iosOf ks vs) e σ [(r, v)] H) :
    Rep K P B (iosOf ks vs) (outE ks (outsOf ks e)) (vs.map some) [(r, v)] H := by
  obtain ⟨M, h⟩ := h
  have lo : (outE ks (outsOf ks e)).length = ks.length := outE_len (outsFrom_len 0 ks e)
  have hio : ∀ m : Nat, ks[m]? = some Kd.io → ∃ d u, e[m]? = some (some (Kd.io, d)) ∧ vs[m]? = some u ∧ σ[m]? = some (some u) ∧ (outsOf ks e)[m]? = some d := fun m hm => by
    have hml : m < vs.length := by rw [hl]; exact (List.getElem?_eq_some_iff.mp hm).1
    obtain ⟨s, d, q⟩ := h.io m vs[m] (ios_mem.mpr ⟨m, by omega, hm, List.getElem?_eq_getElem hml⟩)
    exact ⟨d, vs[m], q, List.getElem?_eq_getElem hml, s, outs_at (i := 0) hm (by simpa using q)⟩
  have hcase : ∀ (i : Nat) x, (outE ks (outsOf ks e) ++ tE [(r, v)])[i]? = some (some x) → (i < ks.length ∧ i < e.length ∧ (e ++ tE [(r, v)])[i]? = some (some x) ∧ (vs.map some)[i]? = σ[i]?) ∨ (i = ks.length ∧ tS r = some x) := fun i x q => by
    by_cases hi : i < ks.length
    · rw [List.getElem?_append_left (by rw [lo]; exact hi)] at q
      obtain ⟨k1, d, q1, rfl⟩ := outE_get q
      obtain ⟨d', u, z1, z2, z3, z4⟩ := hio i k1
      rw [z4] at q1; cases q1
      exact .inl ⟨hi, (List.getElem?_eq_some_iff.mp z1).1, left_get z1, by rw [List.getElem?_map, z2, z3]; rfl⟩
    · rw [List.getElem?_append_right (by rw [lo]; omega), lo] at q
      have : i - ks.length = 0 := by
        by_cases h0 : i - ks.length = 0
        · exact h0
        · rw [List.getElem?_eq_none (by simp [tE_len]; omega)] at q; cases q
      rw [this] at q
      exact .inr ⟨by omega, by simpa [tE] using q⟩
  refine ⟨M, ?_, by rw [lo, List.length_map, hl], fun i w q => ?_, fun j w q => ?_⟩
  · refine h.c.sub (fun i => if i < ks.length then i else e.length) ?_ ?_ ?_
    · rw [List.length_append, List.length_append, lo, List.length_map, hl, tE_len, tV_len]
    · intro i j x y qi qj hij
      rcases hcase i x qi with ⟨a1, a2, _⟩ | ⟨a1, _⟩ <;> rcases hcase j y qj with ⟨b1, b2, _⟩ | ⟨b1, _⟩
      · rw [if_pos a1, if_pos b1] at hij; exact hij
      · rw [if_pos a1, if_neg (by omega)] at hij; omega
      · rw [if_neg (by omega), if_pos b1] at hij; omega
      · omega
    · intro i x q
      rcases hcase i x q with ⟨a1, a2, a3, a4⟩ | ⟨a1, a2⟩
      · rw [if_pos a1]
        refine ⟨a3, ?_⟩
        rw [List.getElem?_append_left (by rw [List.length_map, hl]; exact a1), List.getElem?_append_left (by rw [← h.el]; exact a2)]
        exact a4
      · rw [if_neg (by omega)]
        subst a1
        constructor
        · rw [List.getElem?_append_right (Nat.le_refl _)]
          simp [tE, a2]
        · rw [List.getElem?_append_right (by rw [List.length_map, hl]; omega), List.getElem?_append_right (by rw [h.el]; omega), List.length_map, hl, h.el, Nat.sub_self, Nat.sub_self]
  · simp at q; exact absurd q.1.symm (Res.good_loc hg i)
  · obtain ⟨m, rfl, a, b⟩ := ios_mem.mp q
    obtain ⟨d, u, q1, q2, q3, q4⟩ := hio m a
    rw [b] at q2; cases q2
    refine ⟨by simp [b], d, ?_⟩
    rw [Nat.zero_add]
    exact outE_at a q4
/-- the rule: the body's reading over data, for arguments of these kinds -/
theorem FnG.of_data {pr : Program} {wo : World} {K : PySem.W.Frag} {mg : Str → Option Value} {base : Heap} {CX : CXT} {lv : Nat} {f : Addr} {fd : FuncData} {ps N : List Str} {x qual : Str} {pa : Arguments} {bd : List Stmt} {sc : Scope} {dvs : List V} {kws : List (Str × V)}
    {ks : List Kd} {g : DSp} {b : DS} (F : FunD K x qual pa bd sc dvs kws f fd) (S : FnScope N ps sc) (hks : ks.length = ps.length)
    (hd : ∀ (cdv : Value) (Ar : Around) (out : List Env) (st : Shared) (H : Hp) (E : XK), (Ar.deeper (envOfC qual sc st.heap.objs.size f cdv)).guards = some [] → Room lv (Ar.deeper (envOfC qual sc st.heap.objs.size f cdv)) →
      FSs (cxOf CX pr wo K mg base N qual sc f cdv Ar out st H E) bd b)
    (hp : ∀ ds Qd, ds.length = ks.length → g ds Qd → b (endsF ks Qd) (argE ks ds ++ List.replicate (N.length - ps.length) none)) : FnG pr wo K mg base CX (lv + 1) f fd ps (spOf K ks g) := by
  refine FnG.of_body F S (fun vs H Q E ⟨P, B, ds, l1, l2, _⟩ => by rw [l2, hks]) fun cdv Ar out st H vs Q E hG rm h => ?_
  obtain ⟨P, B, ds, l1, l2, ⟨M, r⟩, w⟩ := h
  refine ⟨_, (hd cdv Ar out st H E hG rm).ps, P, B, iosOf ks vs, argE ks ds ++ List.replicate (N.length - ps.length) none, [], NoLoc.nil, ⟨M, ?_, ?_, fun i v q => by simp at q, fun j v q => ?_⟩, (hd cdv Ar out st H E hG rm).mono _ _ _ ⟨?_, ?_, fun _ z => (show False from z).elim, fun _ z => (show False from z).elim⟩ (hp ds _ l1 w)⟩
  · have c := r.c
    have := RepC.push_nones (show RepC K P B M (argE ks ds) (vs.map some) H by simpa [tE, tV] using c) (N.length - ps.length)
    have e2 : L2.start N vs = vs.map some ++ List.replicate (N.length - ps.length) none := by unfold L2.start; rw [l2, hks]
    rw [e2]
    show RepC K P B M _ _ H
    simpa [tE, tV] using this
  · unfold L2.start
    simp [argE_len l1, l2, hks]
  · obtain ⟨s, d, q'⟩ := r.io j v q
    refine ⟨?_, d, left_get q'⟩
    unfold L2.start
    exact left_get s
  · intro e1 w1 σ1 H1 r1
    obtain ⟨M1, r1⟩ := r1
    exact w1 rfl (outsFrom_len 0 ks e1) .non H1 (rep_out rfl l2 ⟨M1, r1.push_fz (fzn.mpr rfl)⟩)
  · intro rr e1 w1 v σ1 H1 r1
    exact w1.2 w1.1 (outsFrom_len 0 ks e1) v H1 (rep_out w1.1 l2 r1)

/-! ### a call -/
/-- the arguments made ready: frozen, or lent -/
def prep : List Kd → List Res → DEnv → Option (List D × DEnv)
  | [], [], e => some ([], e)
  | .io :: ks, r :: rs, e => match r with
    | .loc i => match ownAt? e i with
      | some (_, d) => match prep ks rs e with
        | some (ds, e2) => some (d :: ds, e2)
        | none => none
      | none => none
    | _ => none
  | .fz :: ks, r :: rs, e => match frz e r with
    | some (d, e1) => match prep ks rs e1 with
      | some (ds, e2) => some (d :: ds, e2)
      | none => none
    | none => none
  | .sc :: ks, r :: rs, e => match r with
    | .loc i => match e[i]? with
      | some (some (.sc, d)) => match prep ks rs e with
        | some (ds, e2) => some (d :: ds, e2)
        | none => none
      | _ => none
    | _ => none
  | _, _, _ => none
/-- what is lent comes back changed -/
def back : List Kd → List Res → List D → DEnv → DEnv
  | .io :: ks, .loc i :: rs, d :: ds, e => match e[i]? with
    | some (some (k, _)) => (back ks rs ds e).set i (some (k, d))
    | _ => back ks rs ds e
  | _ :: ks, _ :: rs, _ :: ds, e => back ks rs ds e
  | _, _, _, e => e
/-- the lent slots are unlike -/
def lent : List Kd → List Res → List Nat
  | .io :: ks, .loc i :: rs => i :: lent ks rs
  | _ :: ks, _ :: rs => lent ks rs
  | _, _ => []
def lentOk : List Kd → List Res → List D → DEnv → Prop
  | .io :: ks, .loc i :: rs, d :: ds, e => (∃ k, ownAt? e i = some (k, d)) ∧ lentOk ks rs ds e
  | _ :: ks, _ :: rs, _ :: ds, e => lentOk ks rs ds e
  | _, _, _, _ => True
def wCall (ks : List Kd) (g : DSp) (fa : DA) : DE := fun e Q => fa e fun rs e1 => (lent ks rs).Nodup ∧ ∃ ds e2, prep ks rs e1 = some (ds, e2) ∧ lentOk ks rs ds e2 ∧ g ds fun r outs => r.good = true → outs.length = ks.length → Q r (back ks rs outs e2)

theorem lent_mem : ∀ {ks : List Kd} {rs : List Res} {i : Nat}, i ∈ lent ks rs ↔ ∃ j : Nat, ks[j]? = some Kd.io ∧ rs[j]? = some (Res.loc i)
  | [], rs, i => by simp [lent]
  | k :: ks, [], i => by simp [lent]
  | k :: ks, r :: rs, i => by
    have ih := lent_mem (ks := ks) (rs := rs) (i := i)
    have sh : (∃ j : Nat, (k :: ks)[j]? = some Kd.io ∧ (r :: rs)[j]? = some (Res.loc i)) ↔ (k = .io ∧ r = .loc i) ∨ ∃ j : Nat, ks[j]? = some Kd.io ∧ rs[j]? = some (Res.loc i) := by
      constructor
      · rintro ⟨j, a, b⟩
        cases j with
        | zero => simp at a b; exact .inl ⟨a, b⟩
        | succ j => exact .inr ⟨j, by simpa using a, by simpa using b⟩
      · rintro (⟨a, b⟩ | ⟨j, a, b⟩)
        · exact ⟨0, by simp [a], by simp [b]⟩
        · exact ⟨j + 1, by simpa using a, by simpa using b⟩
    rw [sh, ← ih]
    cases k <;> cases r <;> simp [lent, eq_comm]
theorem lent_inj : ∀ {ks : List Kd} {rs : List Res} {i j j' : Nat}, (lent ks rs).Nodup → ks[j]? = some Kd.io → rs[j]? = some (Res.loc i) → ks[j']? = some Kd.io → rs[j']? = some (Res.loc i) → j = j'
  | [], rs, i, j, j', _, h, _, _, _ => by simp at h
  | k :: ks, [], i, j, j', _, _, h, _, _ => by simp at h
  | k :: ks, r :: rs, i, j, j', nd, a, b, a', b' => by
    have tl : (lent ks rs).Nodup := by
      cases k <;> cases r <;> simp only [lent] at nd <;> first | exact nd | exact (List.nodup_cons.mp nd).2
    have hd : k = .io → r = .loc i → i ∉ lent ks rs := by
      rintro rfl rfl
      simp only [lent] at nd
      exact (List.nodup_cons.mp nd).1
    cases j with
    | zero =>
      simp at a b
      cases j' with
      | zero => rfl
      | succ j' => exact absurd (lent_mem.mpr ⟨j', by simpa using a', by simpa using b'⟩) (hd a b)
    | succ j =>
      cases j' with
      | zero =>
        simp at a' b'
        exact absurd (lent_mem.mpr ⟨j, by simpa using a, by simpa using b⟩) (hd a' b')
      | succ j' => exact congrArg (· + 1) (lent_inj (i := i) tl (by simpa using a) (by simpa using b) (by simpa using a') (by simpa using b'))
theorem back_len : ∀ (ks : List Kd) (rs : List Res) (ds : List D) (e : DEnv), (back ks rs ds e).length = e.length
  | [], rs, ds, e => by unfold back; rfl
  | k :: ks, [], ds, e => by cases k <;> rfl
  | k :: ks, r :: rs, [], e => by cases k <;> cases r <;> rfl
  | k :: ks, r :: rs, d :: ds, e => by
    have ih := back_len ks rs ds e
    cases k <;> cases r <;> simp only [back] <;> first | exact ih | skip
    split
    · rw [List.length_set]; exact ih
    · exact ih
theorem back_out : ∀ {ks : List Kd} {rs : List Res} {ds : List D} {e : DEnv} {i : Nat}, i ∉ lent ks rs → (back ks rs ds e)[i]? = e[i]?
  | [], rs, ds, e, i, _ => by unfold back; rfl
  | k :: ks, [], ds, e, i, _ => by cases k <;> rfl
  | k :: ks, r :: rs, [], e, i, _ => by cases k <;> cases r <;> rfl
  | k :: ks, r :: rs, d :: ds, e, i, h => by
    have hi : i ∉ lent ks rs := fun z => h (by cases k <;> cases r <;> simp only [lent] <;> first | exact z | exact List.mem_cons_of_mem _ z)
    have ih := back_out (ds := ds) (e := e) hi
    cases k <;> cases r <;> simp only [back] <;> first | exact ih | skip
    rename_i j
    have hij : j ≠ i := by rintro rfl; exact h (by simp [lent])
    split
    · rw [List.getElem?_set, if_neg hij]; exact ih
    · exact ih
theorem back_in : ∀ {ks : List Kd} {rs : List Res} {ds : List D} {e : DEnv} {i j : Nat} {k : Kd} {d d' : D}, (lent ks rs).Nodup → ks[j]? = some Kd.io → rs[j]? = some (Res.loc i) → ds[j]? = some d → e[i]? = some (some (k, d')) → (back ks rs ds e)[i]? = some (some (k, d))
  | [], rs, ds, e, i, j, k, d, d', _, h, _, _, _ => by simp at h
  | k0 :: ks, [], ds, e, i, j, k, d, d', _, _, h, _, _ => by simp at h
  | k0 :: ks, r :: rs, [], e, i, j, k, d, d', _, _, _, h, _ => by simp at h
  | k0 :: ks, r :: rs, d0 :: ds, e, i, j, k, d, d', nd, a, b, c, he => by
    have tl : (lent ks rs).Nodup := by
      cases k0 <;> cases r <;> simp only [lent] at nd <;> first | exact nd | exact (List.nodup_cons.mp nd).2
    cases j with
    | zero =>
      simp at a b c
      subst a b c
      simp only [back, he]
      rw [List.getElem?_set, if_pos rfl, back_len, if_pos (List.getElem?_eq_some_iff.mp he).1]
    | succ j =>
      have ih := back_in (ds := ds) tl (by simpa using a) (by simpa using b) (by simpa using c) he
      cases k0 <;> cases r <;> simp only [back] <;> first | exact ih | skip
      rename_i i0
      have hne : i0 ≠ i := by
        rintro rfl
        simp only [lent] at nd
        exact (List.nodup_cons.mp nd).1 (lent_mem.mpr ⟨j, by simpa using a, by simpa using b⟩)
      split
      · rw [List.getElem?_set, if_neg hne]; exact ih
      · exact ih
theorem lentOk_at : ∀ {ks : List Kd} {rs : List Res} {ds : List D} {e : DEnv} {i j : Nat} {d : D}, lentOk ks rs ds e → ks[j]? = some Kd.io → rs[j]? = some (Res.loc i) → ds[j]? = some d → ∃ k, ownAt? e i = some (k, d)
  | [], rs, ds, e, i, j, d, _, h, _, _ => by simp at h
  | k0 :: ks, [], ds, e, i, j, d, _, _, h, _ => by simp at h
  | k0 :: ks, r :: rs, [], e, i, j, d, _, _, _, h => by simp at h
  | k0 :: ks, r :: rs, d0 :: ds, e, i, j, d, ok, a, b, c => by
    cases j with
    | zero =>
      simp at a b c
      subst a b c
      exact ok.1
    | succ j =>
      have tl : lentOk ks rs ds e := by
        cases k0 <;> cases r <;> simp only [lentOk] at ok <;> first | exact ok | exact ok.2
      exact lentOk_at tl (by simpa using a) (by simpa using b) (by simpa using c)
/-- what the arguments are, made ready -/
structure ArgsOk (K : PySem.W.Frag) (M : Hp) (σ : L2.St) (ks : List Kd) (rs : List Res) (ds : List D) (vs : List V) : Prop where
  l1 : ds.length = ks.length
  l2 : vs.length = ks.length
  no : ∀ j : Nat, ks[j]? ≠ some Kd.ow
  fz : ∀ (j : Nat) d v, ks[j]? = some Kd.fz → ds[j]? = some d → vs[j]? = some v → Fz K M d v
  sc : ∀ (j : Nat) d v, ks[j]? = some Kd.sc → ds[j]? = some d → vs[j]? = some v → ∃ (a : Addr) (ns : List Int), v = .ref a ∧ SqL K M a (ns.map V.int) ∧ d = .list (ns.map PyData.int)
  io : ∀ (j : Nat) v, ks[j]? = some Kd.io → vs[j]? = some v → ∃ i, rs[j]? = some (Res.loc i) ∧ σ[i]? = some (some v)
theorem ArgsOk.mono {K : PySem.W.Frag} {M M' : Hp} {σ : L2.St} {ks : List Kd} {rs : List Res} {ds : List D} {vs : List V} (h : ArgsOk K M σ ks rs ds vs) (e : Ex M M') : ArgsOk K M' σ ks rs ds vs :=
  ⟨h.l1, h.l2, h.no, fun j d v a b c => (h.fz j d v a b c).mono e _ _, fun j d v a b c => let ⟨p, ns, x, y, z⟩ := h.sc j d v a b c; ⟨p, ns, x, e.l y, z⟩, h.io⟩
theorem ArgsOk.cons {K : PySem.W.Frag} {M : Hp} {σ : L2.St} {ks : List Kd} {rs : List Res} {ds : List D} {vs : List V} {k : Kd} {r : Res} {d : D} {v : V} (h : ArgsOk K M σ ks rs ds vs) (hn : k ≠ .ow) (hf : k = .fz → Fz K M d v)
    (hs : k = .sc → ∃ (a : Addr) (ns : List Int), v = .ref a ∧ SqL K M a (ns.map V.int) ∧ d = .list (ns.map PyData.int)) (hi : k = .io → ∃ i, r = .loc i ∧ σ[i]? = some (some v)) : ArgsOk K M σ (k :: ks) (r :: rs) (d :: ds) (v :: vs) := by
  refine ⟨by simp [h.l1], by simp [h.l2], fun j q => ?_, fun j d' v' a b c => ?_, fun j d' v' a b c => ?_, fun j v' a c => ?_⟩
  · cases j with
    | zero => simp at q; exact hn q
    | succ j => exact h.no j (by simpa using q)
  · cases j with
    | zero => simp at a b c; subst b c; exact hf a
    | succ j => exact h.fz j d' v' (by simpa using a) (by simpa using b) (by simpa using c)
  · cases j with
    | zero => simp at a b c; subst b c; exact hs a
    | succ j => exact h.sc j d' v' (by simpa using a) (by simpa using b) (by simpa using c)
  · cases j with
    | zero => simp at a c; subst c; obtain ⟨i, q, z⟩ := hi a; exact ⟨i, by simp [q], z⟩
    | succ j => obtain ⟨i, q, z⟩ := h.io j v' (by simpa using a) (by simpa using c); exact ⟨i, by simpa using q, z⟩
section
variable {K : PySem.W.Frag} {P B : Hp} {ios : List (Nat × V)} {σ : L2.St} {H : Hp}
/-- the arguments' results may turn frozen on the way; where they are lent they stay -/
theorem RepM.prep : ∀ {ks : List Kd} {rs : List Res} {vs : List V} {T : Tmp} {M : Hp} {e e2 : DEnv} {ds : List D}, RepM K P B M ios e σ (T ++ rs.zip vs) H → rs.length = vs.length → PL.prep ks rs e = some (ds, e2) →
    ∃ M2, Ex M M2 ∧ RepM K P B M2 ios e2 σ T H ∧ ArgsOk K M2 σ ks rs ds vs
  | [], [], [], T, M, e, e2, ds, r, _, h => by
    cases h
    exact ⟨M, Ex.refl _, by simpa using r, rfl, rfl, fun j q => by simp at q, fun j d v a => by simp at a, fun j d v a => by simp at a, fun j v a => by simp at a⟩
  | k :: ks, x :: rs, v :: vs, T, M, e, e2, ds, r, hl, h => by
    have rr : RepM K P B M ios e σ (T ++ (x, v) :: rs.zip vs) H := by simpa using r
    have hl' : rs.length = vs.length := by simpa using hl
    cases k with
    | ow => simp [PL.prep] at h
    | fz =>
      simp only [PL.prep] at h
      split at h
      · rename_i d e1 h1
        split at h
        · rename_i ds' e2' h2
          cases h
          obtain ⟨M1, x1, r1, f1⟩ := rr.freezeAt h1
          have r1' : RepM K P B M1 ios e1 σ (T ++ [(.fz d, v)] ++ rs.zip vs) H := by simpa using r1
          obtain ⟨M2, x2, r2, a2⟩ := RepM.prep r1'.mid hl' h2
          exact ⟨M2, x1.trans x2, r2, a2.cons (by decide) (fun _ => f1.mono x2 _ _) (fun z => by cases z) (fun z => by cases z)⟩
        · cases h
      · cases h
    | io =>
      simp only [PL.prep] at h
      cases x with
      | loc i =>
        simp only at h
        split at h
        · rename_i k d h1
          split at h
          · rename_i ds' e2' h2
            cases h
            have hs := r.loc i v (by simp)
            have r1' : RepM K P B M ios e σ (T ++ [(.loc i, v)] ++ rs.zip vs) H := by simpa using r
            obtain ⟨M2, x2, r2, a2⟩ := RepM.prep r1'.mid hl' h2
            exact ⟨M2, x2, r2, a2.cons (by decide) (fun z => by cases z) (fun z => by cases z) (fun _ => ⟨i, rfl, hs⟩)⟩
          · cases h
        · cases h
      | fz d => simp at h
      | ow d => simp at h
      | junk => simp at h
    | sc =>
      simp only [PL.prep] at h
      cases x with
      | loc i =>
        simp only at h
        split at h
        · rename_i d h1
          split at h
          · rename_i ds' e2' h2
            cases h
            have hs := r.loc i v (by simp)
            obtain ⟨a, ns, s, q, z⟩ := r.scS h1
            rw [hs] at s; cases s
            have r1' : RepM K P B M ios e σ (T ++ [(.loc i, .ref a)] ++ rs.zip vs) H := by simpa using r
            obtain ⟨M2, x2, r2, a2⟩ := RepM.prep r1'.mid hl' h2
            exact ⟨M2, x2, r2, a2.cons (by decide) (fun z => by cases z) (fun _ => ⟨a, ns, rfl, x2.l q, z⟩) (fun z => by cases z)⟩
          · cases h
        · cases h
      | fz d => simp at h
      | ow d => simp at h
      | junk => simp at h
  | [], _ :: _, _, T, M, e, e2, ds, r, hl, h => by simp [PL.prep] at h
  | _ :: _, [], _, T, M, e, e2, ds, r, hl, h => by rename_i k _; cases k <;> simp [PL.prep] at h
  | [], [], _ :: _, T, M, e, e2, ds, r, hl, h => by simp at hl
  | _ :: _, _ :: _, [], T, M, e, e2, ds, r, hl, h => by simp at hl
/-- ahead of a call: what the callee sees -/
theorem RepM.enter {ks : List Kd} {rs : List Res} {vs : List V} {ds : List D} {T : Tmp} {M : Hp} {e : DEnv} (r : RepM K P B M ios e σ T H) (a : ArgsOk K M σ ks rs ds vs) (nd : (lent ks rs).Nodup) (lo : lentOk ks rs ds e) (LA : Addr → Prop) [DecidablePred LA]
    (hLA : ∀ p, LA p ↔ ∃ j : Nat, ks[j]? = some Kd.io ∧ vs[j]? = some (V.ref p)) : RepM K (fun p => if LA p then none else H p) M M (iosOf ks vs) (argE ks ds) (vs.map some) [] H := by
  have kind : ∀ (i : Nat) k d, (argE ks ds ++ tE [])[i]? = some (some (k, d)) → ks[i]? = some k ∧ ds[i]? = some d ∧ ∃ v, vs[i]? = some v ∧ (vs.map some ++ tV [])[i]? = some (some v) := fun i k d q => by
    have q' : (argE ks ds)[i]? = some (some (k, d)) := by simpa [tE] using q
    obtain ⟨q1, q2⟩ := argE_get q'
    have hi : i < vs.length := by rw [a.l2]; exact (List.getElem?_eq_some_iff.mp q1).1
    exact ⟨q1, q2, vs[i], List.getElem?_eq_getElem hi, by simp [tV, hi]⟩
  have ioA : ∀ (j : Nat) d v, ks[j]? = some Kd.io → ds[j]? = some d → vs[j]? = some v → ∃ i k p, rs[j]? = some (Res.loc i) ∧ e[i]? = some (some (k, d)) ∧ k.own = true ∧ σ[i]? = some (some (.ref p)) ∧ v = .ref p ∧ OwnAt K M H d p ∧ NM M p d ∧ P p = none := fun j d v h1 h2 h3 => by
    obtain ⟨i, q, s⟩ := a.io j v h1 h3
    obtain ⟨k, z⟩ := lentOk_at lo h1 q h2
    obtain ⟨z1, z2⟩ := ownAt_spec z
    obtain ⟨p, s2, o, m1, p1⟩ := r.owS z1 z2
    rw [s] at s2; cases s2
    exact ⟨i, k, p, q, z1, z2, s, rfl, o, m1, p1⟩
  have own_io : ∀ k : Kd, k.own = true → k ≠ .ow → k = .io := fun k h1 h2 => by cases k <;> first | rfl | exact absurd rfl h2 | cases h1
  refine ⟨⟨r.mh, Ex.refl _, fun p o q => ?_, fun p _ q => .inl q, by simp [argE_len a.l1, a.l2, tE, tV], fun i d q => ?_, fun i d q => ?_, fun i k d q hk => ?_, fun i j p k k' d1 d2 q hk q' hk' s s' => ?_⟩, by simp [argE_len a.l1, a.l2], fun i v q => by simp at q, fun j v q => ?_⟩
  · split at q
    · cases q
    · exact q
  · obtain ⟨q1, q2, v, q3, q4⟩ := kind i _ d q
    exact ⟨v, q4, a.fz i d v q1 q2 q3⟩
  · obtain ⟨q1, q2, v, q3, q4⟩ := kind i _ d q
    obtain ⟨p, ns, rfl, y, z⟩ := a.sc i d v q1 q2 q3
    exact ⟨p, ns, q4, y, z⟩
  · obtain ⟨q1, q2, v, q3, q4⟩ := kind i k d q
    have hk' : k = .io := own_io k hk fun z => a.no i (by rw [q1, z])
    subst hk'
    obtain ⟨i', k', p, _, _, _, _, rfl, o, m1, p1⟩ := ioA i d v q1 q2 q3
    exact ⟨p, q4, o, m1, if_pos ((hLA p).mpr ⟨i, q1, q3⟩)⟩
  · obtain ⟨q1, q2, v, q3, q4⟩ := kind i k d1 q
    obtain ⟨z1, z2, u, z3, z4⟩ := kind j k' d2 q'
    have e1 : k = .io := own_io k hk fun z => a.no i (by rw [q1, z])
    have e2 : k' = .io := own_io k' hk' fun z => a.no j (by rw [z1, z])
    subst e1 e2
    rw [q4] at s; cases s
    rw [z4] at s'; cases s'
    obtain ⟨i1, k1, p1, b1, b2, b3, b4, b5, _⟩ := ioA i d1 _ q1 q2 q3
    obtain ⟨i2, k2, p2, c1, c2, c3, c4, c5, _⟩ := ioA j d2 _ z1 z2 z3
    cases b5; cases c5
    have := r.c.inj i1 i2 p k1 k2 d1 d2 (left_get b2) b3 (left_get c2) c3 (by rw [r.sl b2]; exact b4) (by rw [r.sl c2]; exact c4)
    subst this
    exact lent_inj nd q1 b1 z1 c1
  · obtain ⟨m, rfl, h1, h2⟩ := ios_mem.mp q
    have hm : m < ds.length := by rw [a.l1]; exact (List.getElem?_eq_some_iff.mp h1).1
    refine ⟨by simp [h2], ds[m], ?_⟩
    rw [Nat.zero_add]
    exact argE_at h1 (List.getElem?_eq_getElem hm)
/-- behind a call: what was lent is changed, all else stands, the result is there -/
theorem RepM.leave {ks : List Kd} {rs : List Res} {vs : List V} {ds outs : List D} {T : Tmp} {M M3 : Hp} {e : DEnv} {H' : Hp} {rr : Res} {v : V} (r : RepM K P B M ios e σ T H) (a : ArgsOk K M σ ks rs ds vs) (nd : (lent ks rs).Nodup) (lo : lentOk ks rs ds e) (LA : Addr → Prop) [DecidablePred LA]
    (hLA : ∀ p, LA p ↔ ∃ j : Nat, ks[j]? = some Kd.io ∧ vs[j]? = some (V.ref p)) (hg : rr.good = true) (ho : outs.length = ks.length)
    (c : RepM K (fun p => if LA p then none else H p) M M3 (iosOf ks vs) (outE ks outs) (vs.map some) [(rr, v)] H') : RepM K P B M3 ios (back ks rs outs e) σ (T ++ [(rr, v)]) H' := by
  have dlen : ∀ j : Nat, ks[j]? = some Kd.io → ∃ d v o, ds[j]? = some d ∧ vs[j]? = some v ∧ outs[j]? = some o := fun j h => by
    have hj := (List.getElem?_eq_some_iff.mp h).1
    exact ⟨_, _, _, List.getElem?_eq_getElem (by rw [a.l1]; exact hj), List.getElem?_eq_getElem (by rw [a.l2]; exact hj), List.getElem?_eq_getElem (by rw [ho]; exact hj)⟩
  -- a lent slot: by its parameter
  have lentA : ∀ i, i ∈ lent ks rs → ∃ (j : Nat) (k : Kd) (d o : D) (p : Addr), ks[j]? = some Kd.io ∧ rs[j]? = some (Res.loc i) ∧ vs[j]? = some (V.ref p) ∧ outs[j]? = some o ∧ e[i]? = some (some (k, d)) ∧ k.own = true ∧ σ[i]? = some (some (.ref p)) ∧ P p = none := fun i h => by
    obtain ⟨j, h1, h2⟩ := lent_mem.mp h
    obtain ⟨d, u, o, q1, q2, q3⟩ := dlen j h1
    obtain ⟨k, z⟩ := lentOk_at lo h1 h2 q1
    obtain ⟨z1, z2⟩ := ownAt_spec z
    obtain ⟨p, s2, ow, m1, p1⟩ := r.owS z1 z2
    obtain ⟨i', w1, w2⟩ := a.io j u h1 q2
    rw [h2] at w1; cases w1
    rw [s2] at w2; cases w2
    exact ⟨j, k, d, o, p, h1, h2, q2, q3, z1, z2, s2, p1⟩
  have LA_slot : ∀ p, LA p → ∃ i, i ∈ lent ks rs ∧ σ[i]? = some (some (.ref p)) ∧ P p = none := fun p h => by
    obtain ⟨j, h1, h2⟩ := (hLA p).mp h
    obtain ⟨i, w1, w2⟩ := a.io j _ h1 h2
    obtain ⟨j', k, d, o, p', a1, a2, a3, a4, a5, a6, a7, a8⟩ := lentA i (lent_mem.mpr ⟨j, h1, w1⟩)
    rw [w2] at a7; cases a7
    exact ⟨i, lent_mem.mpr ⟨j, h1, w1⟩, w2, a8⟩
  have P_P' : ∀ p o, P p = some o → (fun p => if LA p then none else H p) p = some o := fun p o q => by
    have hn : ¬ LA p := fun z => by obtain ⟨_, _, _, w⟩ := LA_slot p z; rw [q] at w; cases w
    show (if LA p then none else H p) = some o
    rw [if_neg hn]; exact r.c.ph p o q
  -- an owned slot that is not lent
  have keep : ∀ (i : Nat) k d p, (e ++ tE T)[i]? = some (some (k, d)) → k.own = true → i ∉ lent ks rs → (σ ++ tV T)[i]? = some (some (.ref p)) → OwnAt K M H d p → ¬ LA p ∧ ∃ o, (fun p => if LA p then none else H p) p = some o ∧ H p = some o := fun i k d p q hk hi s o => by
    have hn : ¬ LA p := fun z => by
      obtain ⟨i', h1, h2, _⟩ := LA_slot p z
      obtain ⟨j', k', d', o', p', a1, a2, a3, a4, a5, a6, a7, a8⟩ := lentA i' h1
      have := r.c.inj i i' p k k' d d' q hk (left_get a5) a6 s (by rw [r.sl a5]; exact h2)
      subst this
      exact hi h1
    obtain ⟨ob, w⟩ := o.some
    refine ⟨hn, ob, ?_, w⟩
    show (if LA p then none else H p) = some ob
    rw [if_neg hn]; exact w
  have bl := back_len ks rs outs e
  -- the slots behind the call
  have slot : ∀ (i : Nat) k d, (back ks rs outs e ++ tE T)[i]? = some (some (k, d)) → (i ∉ lent ks rs ∧ (e ++ tE T)[i]? = some (some (k, d))) ∨
      (k.own = true ∧ ∃ d0, i ∈ lent ks rs ∧ (e ++ tE T)[i]? = some (some (k, d0)) ∧ ∃ (j : Nat) (p : Addr), ks[j]? = some Kd.io ∧ rs[j]? = some (Res.loc i) ∧ vs[j]? = some (V.ref p) ∧ outs[j]? = some d ∧ (σ ++ tV T)[i]? = some (some (.ref p)) ∧ P p = none) := fun i k d q => by
    by_cases hi : i < e.length
    · rw [List.getElem?_append_left (by rw [bl]; exact hi)] at q
      by_cases hl : i ∈ lent ks rs
      · obtain ⟨j, k', d', o, p, a1, a2, a3, a4, a5, a6, a7, a8⟩ := lentA i hl
        rw [back_in nd a1 a2 a4 a5] at q
        cases q
        exact .inr ⟨a6, d', hl, left_get a5, j, p, a1, a2, a3, a4, by rw [r.sl a5]; exact a7, a8⟩
      · rw [back_out hl] at q
        exact .inl ⟨hl, left_get q⟩
    · rw [List.getElem?_append_right (by rw [bl]; omega), bl] at q
      refine .inl ⟨fun z => ?_, by rw [List.getElem?_append_right (by omega)]; exact q⟩
      obtain ⟨j, k', d', o, p, a1, a2, a3, a4, a5, _⟩ := lentA i z
      exact hi (List.getElem?_eq_some_iff.mp a5).1
  have calleeOw : ∀ (j : Nat) d p, ks[j]? = some Kd.io → outs[j]? = some d → vs[j]? = some (V.ref p) → OwnAt K M3 H' d p ∧ NM M3 p d := fun j d p h1 h2 h3 => by
    have q := outE_at h1 h2
    obtain ⟨p', s, o, m1, _⟩ := c.owS q rfl
    have s' : (vs.map some)[j]? = some (some (V.ref p)) := by simp [h3]
    rw [s'] at s; cases s
    exact ⟨o, m1⟩
  have core : RepC K P B M3 (back ks rs outs e ++ tE T) (σ ++ tV T) H' := by
    refine ⟨c.mh, r.c.bm.trans c.c.bm, fun p o q => c.c.ph p o (P_P' p o q), fun p h1 h2 => ?_, by simp [bl, r.el, tE_len, tV_len], fun i d q => ?_, fun i d q => ?_, fun i k d q hk => ?_, fun i j p k k' d1 d2 q hk q' hk' s s' => ?_⟩
    · obtain ⟨o, ho⟩ := Option.ne_none_iff_exists'.mp h1
      rcases c.c.pb p (fun z => nomatch (P_P' p o ho).symm.trans z) h2 with h3 | h3
      · rcases r.c.pb p h1 h3 with h4 | ⟨vs4, h4⟩
        · exact .inl h4
        · exact .inr ⟨vs4, c.c.bm _ _ h4⟩
      · exact .inr h3
    · rcases slot i _ d q with ⟨_, q⟩ | ⟨z, _⟩
      · obtain ⟨w, s, f⟩ := r.c.fz i d q; exact ⟨w, s, f.mono c.c.bm _ _⟩
      · cases z
    · rcases slot i _ d q with ⟨_, q⟩ | ⟨z, _⟩
      · obtain ⟨w, n, s, f, g⟩ := r.c.sc i d q; exact ⟨w, n, s, c.c.bm.l f, g⟩
      · cases z
    · rcases slot i k d q with ⟨hl, q⟩ | ⟨_, d0, hl, q0, j, p, a1, a2, a3, a4, a5, a6⟩
      · obtain ⟨p, s, o, m1, p1⟩ := r.c.ow i k d q hk
        obtain ⟨hn, ob, w1, w2⟩ := keep i k d p q hk hl s o
        refine ⟨p, s, o.step c.c.bm fun o' h => c.c.ph p o' (by rw [w2] at h; cases h; exact w1), ?_, p1⟩
        rcases m1 with m1 | m1
        · cases z : M3 p with
          | none => exact .inl z
          | some o3 =>
            rcases c.c.pb p (fun z2 => nomatch w1.symm.trans z2) (by rw [z]; simp) with h4 | ⟨vs4, h4⟩
            · exact absurd m1 h4
            · have e1 := c.mh _ _ h4
              rw [c.c.ph p _ w1] at e1
              cases e1
              exact .inr (o.isTup w2)
        · exact .inr m1
      · obtain ⟨o, m1⟩ := calleeOw j d p a1 a4 a3
        exact ⟨p, a5, o, m1, a6⟩
    · have g1 : ∃ d0, (e ++ tE T)[i]? = some (some (k, d0)) := by
        rcases slot i k d1 q with ⟨_, q⟩ | ⟨_, d0, _, q0, _⟩
        · exact ⟨_, q⟩
        · exact ⟨_, q0⟩
      have g2 : ∃ d0, (e ++ tE T)[j]? = some (some (k', d0)) := by
        rcases slot j k' d2 q' with ⟨_, q⟩ | ⟨_, d0, _, q0, _⟩
        · exact ⟨_, q⟩
        · exact ⟨_, q0⟩
      obtain ⟨x1, g1⟩ := g1
      obtain ⟨x2, g2⟩ := g2
      exact r.c.inj i j p k k' x1 x2 g1 hk g2 hk' s s'
  have base : RepM K P B M3 ios (back ks rs outs e) σ T H' := by
    refine ⟨core, by rw [bl]; exact r.el, r.loc, fun j w q => ?_⟩
    obtain ⟨s, d, q'⟩ := r.io j w q
    refine ⟨s, ?_⟩
    by_cases hl : j ∈ lent ks rs
    · obtain ⟨j', k', d', o, p, a1, a2, a3, a4, a5, a6, a7, a8⟩ := lentA j hl
      rw [q'] at a5; cases a5
      exact ⟨o, back_in nd a1 a2 a4 q'⟩
    · exact ⟨d, by rw [back_out hl]; exact q'⟩
  cases rr with
  | fz d => exact base.push_fz (c.tfz (by simp))
  | ow d =>
    obtain ⟨p, rfl, o, m1, p1⟩ := c.tow (d := d) (v := v) (by simp)
    have p1' : (if LA p then none else H p) = none := p1
    have hP : P p = none := by
      cases z : P p with
      | none => rfl
      | some o' =>
        have z2 : (if LA p then none else H p) = some o' := P_P' p o' z
        rw [z2] at p1'; cases p1'
    refine base.push_ow o m1 hP fun i k d' q hk s => ?_
    rcases slot i k d' q with ⟨hl, q⟩ | ⟨_, d0, hl, q0, j, p2, a1, a2, a3, a4, a5, a6⟩
    · obtain ⟨p3, s3, o3, _, _⟩ := r.c.ow i k d' q hk
      rw [s3] at s; cases s
      obtain ⟨hn, ob, w1, _⟩ := keep i k d' p q hk hl s3 o3
      have w1' : (if LA p then none else H p) = some ob := w1
      rw [w1'] at p1'; cases p1'
    · rw [a5] at s; cases s
      have t := c.tget (j := 0) (t := (Res.ow d, V.ref p)) rfl
      have q1 := outE_at a1 a4
      have hj := (List.getElem?_eq_some_iff.mp q1).1
      have := c.c.inj j _ p .io .ow d' d (left_get q1) rfl t.1 rfl (left_get (by simp [a3])) t.2
      omega
  | loc i => cases hg
  | junk => cases hg
end
section
variable {X : Cx} {CX : CXT} {lv : Nat} {f : Addr} {fd : FuncData} {ps : List Str} {E : XK} {x : Str} {p pos : Pos} {a : Expr} {es : List Expr} {ks : List Kd} {g : DSp} {fs : DA}
theorem call_run (gm : ∀ ds Q Q', (∀ r o, Q r o → Q' r o) → g ds Q → g ds Q') (ha : FA X es fs) (σ : L2.St) (H : Hp) (Q : VK) : tOf X.K (wCall ks g fs) σ H Q → tCall (spOf X.K ks g) [] E (aOf X.K fs) σ H Q := by
  rintro ⟨P, B, ios, e, T, h, w⟩
  refine ⟨P, B, ios, e, T, h, ha.mono _ _ _ (fun rs e1 w1 vs H1 hl h1 => ?_) w⟩
  obtain ⟨nd, ds, e2, hp, lo, w2⟩ := w1
  obtain ⟨M, h1⟩ := h1
  obtain ⟨M2, x2, r2, a2⟩ := h1.prep hl hp
  rw [List.append_nil]
  let LA : Addr → Prop := fun p => ∃ j : Nat, ks[j]? = some Kd.io ∧ vs[j]? = some (V.ref p)
  haveI : DecidablePred LA := fun p => Classical.propDecidable _
  refine ⟨_, M2, ds, a2.l1, a2.l2, ⟨M2, r2.enter a2 nd lo LA fun p => Iff.rfl⟩, gm _ _ _ (fun r outs q hg ho v H' h3 => ?_) w2⟩
  obtain ⟨M3, h3⟩ := h3
  exact q hg ho v H' ⟨M3, r2.leave a2 nd lo LA (fun p => Iff.rfl) hg ho h3⟩
theorem wCall_mono (gm : ∀ ds Q Q', (∀ r o, Q r o → Q' r o) → g ds Q → g ds Q') (ha : FA X es fs) : ∀ e Q Q', (∀ r e', Q r e' → Q' r e') → wCall ks g fs e Q → wCall ks g fs e Q' :=
  fun e Q Q' h w => ha.mono _ _ _ (fun rs e1 ⟨nd, ds, e2, hp, lo, w2⟩ => ⟨nd, ds, e2, hp, lo, gm _ _ _ (fun r outs q hg ho => h _ _ (q hg ho)) w2⟩) w
theorem fe_call (F : FnG X.prog X.w X.K X.mg X.base CX lv f fd ps (spOf X.K ks g)) (gm : ∀ ds Q Q', (∀ r o, Q r o → Q' r o) → g ds Q → g ds Q') (hG : X.A.guards = some []) (rm : Room lv X.A) (hg : Gl X x) (hm : X.mg x = some (.ref f)) (hk : PySem.W.keepIn X.K (.ref f) = true)
    (hb : Binds X.K fd ps []) (hx : Passes CX X E) (ha : FA X (a :: es) fs) (hdb : (x == ("__debug__" : Str)) = false := by decide) (he : starEach (a :: es) X.env = (false, eval a X.env) :: starEach es X.env := by rfl) (hpl : (backTo pos (starEach es X.env)).any (·.1) = false := by rfl) :
    FE X (.Call (.Name x p) (a :: es) [] pos) (wCall ks g fs) :=
  ⟨pe_imp (pe_callG F hG rm hg hm hk hb hx ha.pa hdb he hpl) (call_run gm ha), wCall_mono gm ha⟩
theorem fe_call0 (F : FnG X.prog X.w X.K X.mg X.base CX lv f fd ps (spOf X.K ks g)) (gm : ∀ ds Q Q', (∀ r o, Q r o → Q' r o) → g ds Q → g ds Q') (hG : X.A.guards = some []) (rm : Room lv X.A) (hg : Gl X x) (hm : X.mg x = some (.ref f)) (hk : PySem.W.keepIn X.K (.ref f) = true)
    (hb : Binds X.K fd ps []) (hx : Passes CX X E) (hdb : (x == ("__debug__" : Str)) = false := by decide) : FE X (.Call (.Name x p) [] [] pos) (wCall ks g wNil) := by
  refine ⟨pe_imp (pe_callG0 F hG rm hg hm hk hb hx hdb) fun σ H Q q => ?_, wCall_mono gm (X := X) fa_nil⟩
  have := call_run (X := X) (E := E) gm fa_nil σ H Q q
  obtain ⟨P, B, ios, e, T, r, w⟩ := this
  exact w [] H rfl (by simpa using r)
end
/-! ### a call that only reads, and tells a number, a truth, a text, None: nothing is shared by it -/
def isScal : D → Bool
  | .none => true
  | .bool _ => true
  | .int _ => true
  | .str _ => true
  | _ => false
def okR (d : D) : Option D := if okF d = true then some d else none
theorem okR_some {d d' : D} (h : okR d = some d') : okF d = true ∧ d = d' := by
  unfold okR at h
  split at h
  · cases h; exact ⟨by assumption, rfl⟩
  · cases h
def lookR (e : DEnv) : Res → Option D
  | .fz d => some d
  | .ow d => okR d
  | .loc i => match e[i]? with
    | some (some (.fz, d)) => some d
    | some (some (.ow, d)) => okR d
    | some (some (.io, d)) => okR d
    | _ => none
  | .junk => none
def lookRs (e : DEnv) : List Res → Option (List D)
  | [] => some []
  | r :: rs => match lookR e r with
    | some d => match lookRs e rs with
      | some ds => some (d :: ds)
      | none => none
    | none => none
def wCallR (n : Nat) (g : DSp) (fa : DA) : DE := fun e Q => fa e fun rs e1 => ∃ ds, lookRs e1 rs = some ds ∧ ds.length = n ∧ g ds fun r outs => r.good = true → outs.length = n → ∃ d, r = .fz d ∧ isScal d = true ∧ Q (.fz d) e1
section
variable {K : PySem.W.Frag} {P B M : Hp} {ios : List (Nat × V)} {e : DEnv} {σ : L2.St} {T : Tmp} {H H' : Hp}
theorem RepM.extend (r : RepM K P B M ios e σ T H) (x : Ex H H') : RepM K P B M ios e σ T H' := by
  refine ⟨⟨r.c.mh.trans x, r.c.bm, r.c.ph.trans x, r.c.pb, r.c.len, r.c.fz, r.c.sc, fun i k d q hk => ?_, r.c.inj⟩, r.el, r.loc, r.io⟩
  obtain ⟨a, s, o, m, p⟩ := r.c.ow i k d q hk
  exact ⟨a, s, o.step (Ex.refl _) (fun u z => x _ u z), m, p⟩
theorem RepM.viewR (r : RepM K P B M ios e σ T H) {x : Res} {v : V} {d : D} (h : (x, v) ∈ T) (hl : lookR e x = some d) : Fz K H d v := by
  cases x with
  | fz d' => cases hl; exact (r.tfz h).mono r.mh _ _
  | ow d' =>
    obtain ⟨hF, rfl⟩ := okR_some (show okR d' = some d from hl)
    obtain ⟨a, rfl, o, _⟩ := r.tow h; exact o.freeze hF r.mh fun u z => z
  | loc i =>
    have hs := r.loc i v h
    unfold lookR at hl
    dsimp only at hl
    split at hl
    · rename_i d' q; cases hl
      obtain ⟨w, s, f⟩ := r.fzS q
      rw [hs] at s; cases s; exact f.mono r.mh _ _
    · rename_i d' q; obtain ⟨hF, rfl⟩ := okR_some hl
      obtain ⟨a, s, f, _⟩ := r.owS q rfl
      rw [hs] at s; cases s; exact f.freeze hF r.mh fun u z => z
    · rename_i d' q; obtain ⟨hF, rfl⟩ := okR_some hl
      obtain ⟨a, s, f, _⟩ := r.owS q rfl
      rw [hs] at s; cases s; exact f.freeze hF r.mh fun u z => z
    · cases hl
  | junk => cases hl
theorem RepM.viewsR : ∀ {rs : List Res} {vs : List V} {T : Tmp} {ds : List D}, RepM K P B M ios e σ (T ++ rs.zip vs) H → rs.length = vs.length → lookRs e rs = some ds → FzL K H ds vs
  | [], [], T, ds, r, _, h => by cases h; exact .nil
  | x :: rs, v :: vs, T, ds, r, hl, h => by
    unfold lookRs at h
    split at h
    · rename_i d q
      split at h
      · rename_i ds' q'
        cases h
        exact .cons (r.viewR (by simp) q) (RepM.viewsR (T := T ++ [(x, v)]) (by simpa using r) (by simpa using hl) q')
      · cases h
    · cases h
  | [], _ :: _, T, ds, r, hl, h => by simp at hl
  | _ :: _, [], T, ds, r, hl, h => by simp at hl
theorem argE_fz : ∀ (ds : List D) {i : Nat} {k : Kd} {d : D}, (argE (List.replicate ds.length Kd.fz) ds)[i]? = some (some (k, d)) → k = .fz ∧ ds[i]? = some d := fun ds i k d h => by
  obtain ⟨h1, h2⟩ := argE_get h
  rw [List.getElem?_replicate] at h1
  split at h1
  · cases h1; exact ⟨rfl, h2⟩
  · cases h1
theorem ios_fz : ∀ (i n : Nat) (vs : List V), iosFrom i (List.replicate n Kd.fz) vs = []
  | i, 0, vs => by simp [iosFrom]
  | i, n + 1, [] => by simp [List.replicate_succ, iosFrom]
  | i, n + 1, v :: vs => by rw [List.replicate_succ]; simp only [iosFrom]; exact ios_fz (i + 1) n vs
theorem enterR {ds : List D} {vs : List V} (f : FzL K H ds vs) : RepM K H H H (iosOf (List.replicate ds.length Kd.fz) vs) (argE (List.replicate ds.length Kd.fz) ds) (vs.map some) [] H := by
  have hl : (argE (List.replicate ds.length Kd.fz) ds).length = vs.length := by rw [argE_len (by simp), List.length_replicate, f.length]
  have kd : ∀ {i : Nat} {k : Kd} {d : D}, (argE (List.replicate ds.length Kd.fz) ds ++ tE [])[i]? = some (some (k, d)) → k = .fz ∧ ds[i]? = some d := fun q => argE_fz ds (by simpa [tE] using q)
  refine ⟨⟨Ex.refl _, Ex.refl _, Ex.refl _, fun a h _ => .inl h, by simp [hl, tE, tV], fun i d q => ?_, fun i d q => ?_, fun i k d q hk => ?_, fun i j p k k' d1 d2 q hk => ?_⟩, by simp [hl], fun i v q => by simp at q, fun j v q => ?_⟩
  · obtain ⟨_, q2⟩ := kd q
    obtain ⟨v, hv, fv⟩ := f.get q2
    exact ⟨v, by simp [tV, hv], fv⟩
  · obtain ⟨q1, _⟩ := kd q; cases q1
  · obtain ⟨q1, _⟩ := kd q; subst q1; cases hk
  · obtain ⟨q1, _⟩ := kd q; subst q1; cases hk
  · unfold iosOf at q; rw [ios_fz] at q; simp at q
theorem scal_fz {d : D} {v : V} {M' : Hp} (h : isScal d = true) (f : Fz K M' d v) : Fz K M d v := by
  cases d with
  | none => exact fzn.mpr (fzn.mp f)
  | bool b => exact fzb.mpr (fzb.mp f)
  | int b => exact fzi.mpr (fzi.mp f)
  | str b => exact fzs.mpr (fzs.mp f)
  | _ => cases h
end
section
variable {X : Cx} {CX : CXT} {lv : Nat} {f : Addr} {fd : FuncData} {ps : List Str} {E : XK} {x : Str} {p pos : Pos} {a : Expr} {es : List Expr} {n : Nat} {g : DSp} {fs : DA}
theorem callR_run (gm : ∀ ds Q Q', (∀ r o, Q r o → Q' r o) → g ds Q → g ds Q') (ha : FA X es fs) (σ : L2.St) (H : Hp) (Q : VK) : tOf X.K (wCallR n g fs) σ H Q → tCall (spOf X.K (List.replicate n .fz) g) [] E (aOf X.K fs) σ H Q := by
  rintro ⟨P, B, ios, e, T, h, w⟩
  refine ⟨P, B, ios, e, T, h, ha.mono _ _ _ (fun rs e1 w1 vs H1 hl h1 => ?_) w⟩
  obtain ⟨ds, hd, hn, w2⟩ := w1
  subst hn
  obtain ⟨M, h1⟩ := h1
  have fl := h1.viewsR hl hd
  rw [List.append_nil]
  refine ⟨H1, H1, ds, by simp, by rw [← fl.length]; simp, ⟨H1, enterR fl⟩, gm _ _ _ (fun r outs q hg ho v H' h3 => ?_) w2⟩
  obtain ⟨M3, h3⟩ := h3
  obtain ⟨d, rfl, hs, w3⟩ := q hg (by simpa using ho)
  exact w3 v H' ⟨M, (h1.popN.extend h3.c.ph).push_fz (scal_fz hs (h3.tfz (by simp)))⟩
theorem wCallR_mono (gm : ∀ ds Q Q', (∀ r o, Q r o → Q' r o) → g ds Q → g ds Q') (ha : FA X es fs) : ∀ e Q Q', (∀ r e', Q r e' → Q' r e') → wCallR n g fs e Q → wCallR n g fs e Q' :=
  fun e Q Q' h w => ha.mono _ _ _ (fun rs e1 ⟨ds, hd, hn, w2⟩ => ⟨ds, hd, hn, gm _ _ _ (fun r outs q hg ho => let ⟨d, h1, h2, h3⟩ := q hg ho; ⟨d, h1, h2, h _ _ h3⟩) w2⟩) w
theorem fe_callR (F : FnG X.prog X.w X.K X.mg X.base CX lv f fd ps (spOf X.K (List.replicate n .fz) g)) (gm : ∀ ds Q Q', (∀ r o, Q r o → Q' r o) → g ds Q → g ds Q') (hG : X.A.guards = some []) (rm : Room lv X.A) (hg : Gl X x) (hm : X.mg x = some (.ref f)) (hk : PySem.W.keepIn X.K (.ref f) = true)
    (hb : Binds X.K fd ps []) (hx : Passes CX X E) (ha : FA X (a :: es) fs) (hdb : (x == ("__debug__" : Str)) = false := by decide) (he : starEach (a :: es) X.env = (false, eval a X.env) :: starEach es X.env := by rfl) (hpl : (backTo pos (starEach es X.env)).any (·.1) = false := by rfl) :
    FE X (.Call (.Name x p) (a :: es) [] pos) (wCallR n g fs) :=
  ⟨pe_imp (pe_callG F hG rm hg hm hk hb hx ha.pa hdb he hpl) (callR_run gm ha), wCallR_mono gm ha⟩
end
end PL
set_option Elab.async false
set_option linter.all false
set_option autoImplicit false
set_option maxRecDepth 100000
set_option maxHeartbeats 4000000
/-! PLg: the law's own call: the script comes in, True goes out. -/
namespace PL
open PySem PySem.Spec PyProof.Rows L2

/-- a law of the promise: its one argument is the script -/
def spLaw (K : PySem.W.Frag) (g : DSp) : Sp := spOf K [.sc] g
theorem law_enter {pr : Program} {wo : World} {K : PySem.W.Frag} {mg mb : Str → Option Value} {CX : CXT} {lv : Nat} {fa a : Addr} {fd : FuncData} {x : Str} {sp : Sp} {st : Shared} {us : List Value} {ns : List Int}
    (inK : K.In st.heap) (gl : st.heap.Ns mainGlobals mg) (bl : st.heap.Ns builtinsNs mb) (bb : ∀ y : Str, y ≠ "__name__" → mb y = bootBuiltins y) (nl : st.heap.NoLimit) (gens : st.gens = #[])
    (obj : st.heap.get? a = some { cls := .type "list", data := .seq us.toArray }) (iar : IntsAre us ns) (len : ns.length ≤ sizeLine) (rm : Room lv callerA)
    (F : ∀ base : Heap, K.In base → base.Ns mainGlobals mg → FnG pr wo K mg base CX lv fa fd [x] sp) (bind : ∀ (s : Shared) (u : Value), BindsTo s fd ⟨[u], []⟩ [(x, u)])
    (prom : ∀ H : Hp, SqL K H a (ns.map V.int) → sp [.ref a] H (fun v _ => v = .bl true) fun _ _ _ => False)
    (noX : ∀ H e s', CX [] H st (fun _ _ _ => False) e s' → False) :
    codeAny (model pr wo) callerA (.call (.ref fa) ⟨[.ref a], []⟩) (fun r s' => r = .ok (.ret (.bool true)) ∧ OldK st.heap s'.heap ∧ s'.os = st.os ∧ AllBare s'.gens) st := by
  have vals := vals_ints iar
  have lenV := iar.length
  have main : ∀ H : Hp, (∀ b u, H b = some u → ∃ o xs, u = .frz o (.lst xs)) → SqL K H a (ns.map V.int) → HOk pr wo H st.heap → (∀ b, H b ≠ none → b = a) → (H a ≠ none → K.lookup a = none) →
      codeAny (model pr wo) callerA (.call (.ref fa) ⟨[.ref a], []⟩) (fun r s' => r = .ok (.ret (.bool true)) ∧ OldK st.heap s'.heap ∧ s'.os = st.os ∧ AllBare s'.gens) st := by
    intro H only hS hok atA freeA
    have isA : ∀ {b : Addr} {u : HO}, H b = some u → b = a := fun {b u} q => atA b (by rw [q]; exact fun z => nomatch z)
    have dictFree : ∀ {b : Addr} {o : Obj} {es : Array DictEntry} {n : Nat}, st.heap.get? b = some o → o.data = .dict es n → H b = none := by
      intro b o es n q d
      cases z : H b with
      | none => rfl
      | some u =>
        have := isA z
        subst this
        rw [obj] at q; cases q
        exact nomatch d
    have nsB : ∀ {b : Addr} {m : Str → Option Value}, st.heap.Ns b m → (hidT st.heap H).Ns b m := by
      rintro b m ⟨o, es, n, q, d, r⟩
      exact ⟨o, es, n, hidT_get q (dictFree q d), d, r⟩
    have kB : K.In (hidT st.heap H) := by
      intro b o q
      refine hidT_get (inK b o q) ?_
      cases z : H b with
      | none => rfl
      | some u =>
        have := isA z
        subst this
        rw [freeA (by rw [z]; exact fun z => nomatch z)] at q
        cases q
    obtain ⟨mc, c1, c2⟩ := nl
    have md : Mod K mg (hidT st.heap H) := ⟨kB, nsB gl, ⟨mb, nsB bl, bb⟩, mc, nsB c1, c2⟩
    have en : Env0 pr wo K mg (hidT st.heap H) callerA [] st H := by
      refine ⟨rfl, md, fun b o q => of_hidT q, Nat.le_of_eq (hidT_size _ _), trivial, fun b q => ?_, hok, .of_eq gens⟩
      exact nomatch (show b ∈ ([] : List Addr) from q)
    have call := (F _ kB (nsB gl)).go callerA [] st H ⟨[.ref a], []⟩ [.ref a] [.ref a] _ _ rfl rm en (bind st (.ref a)) (.cons rfl .nil) (prom H hS)
    refine codeAny_mono call ?_
    intro r s2 q
    cases r with
    | error z => exact (noX H z s2 q).elim
    | ok fl =>
      cases fl with
      | next => exact (show False from q).elim
      | brk => exact (show False from q).elim
      | cont => exact (show False from q).elim
      | ret u =>
        obtain ⟨v, H2, os, bare, un, hok2, rv, hv⟩ := q
        have hv : v = .bl true := hv
        subst hv
        have hu : u = Value.bool true := rv
        subst hu
        refine ⟨rfl, OldK.of_keep ?_, os, bare⟩
        intro b o q
        cases z : H b with
        | none => exact un.keep b o q z (fun y => nomatch (show b ∈ ([] : List Addr) from y)) (fun y => nomatch y)
        | some u =>
          obtain ⟨ob, xs, rfl⟩ := only b u z
          obtain ⟨q1, _⟩ := hok b _ z
          obtain ⟨q2, _⟩ := hok2 b _ (un.frzs b ob _ z)
          rw [q] at q1; cases q1
          exact q2
  cases k : K.lookup a with
  | some o =>
    have q := inK a o k
    rw [obj] at q
    cases q
    refine main (fun _ => none) (fun b u z => nomatch z) (.inr ⟨_, us.toArray, _, k, rfl, rfl, rfl, ?_, ?_⟩) (fun b u z => nomatch (show (none : Option HO) = some u from z)) (fun b z => absurd rfl z) (fun z => absurd rfl z)
    · rw [List.size_toArray, lenV]; exact len
    · simpa using vals
  | none =>
    let H0 : Hp := fun b => if b = a then some (.frz { cls := .type "list", data := .seq us.toArray } (.lst (ns.map V.int))) else none
    have at0 : H0 a = some (.frz { cls := .type "list", data := .seq us.toArray } (.lst (ns.map V.int))) := if_pos rfl
    have off : ∀ {b : Addr}, b ≠ a → H0 b = none := fun h => if_neg h
    have on : ∀ {b : Addr} {u : HO}, H0 b = some u → b = a := fun {b u} q => by
      by_cases h : b = a
      · exact h
      · rw [off h] at q; cases q
    refine main H0 (fun b u z => ?_) (.inl (.inr ⟨_, at0⟩)) (fun b u z => ?_) (fun b z => ?_) (fun _ => k)
    · have := on z; subst this
      rw [at0] at z; cases z
      exact ⟨_, _, rfl⟩
    · have := on z; subst this
      rw [at0] at z; cases z
      exact ⟨obj, by rw [List.length_map]; exact len, us, _, vals, obj⟩
    · by_cases h : b = a
      · exact h
      · exact absurd (off h) z
/-- the law's row, from its def's promise over data -/
theorem law_walk {l : PySem.W.OpenLaw} {n lv : Nat} {q : Program} {loose : List Str} {XP : (Str → Option Value) → Heap → Prop} {YP : World → Heap → Prop} {d : DefRec} {CX : CXT} {x : Str} {g : PySem.W.Frag → DSp}
    (hn : l.most = some n) (hn2 : n ≤ sizeLine) (hdf : d.params.defaults = []) (rm : Room lv callerA)
    (F : ∀ (w : World) (mg : Str → Option Value) (fa : Addr) (h : Heap), YP w h → h.Ns mainGlobals mg → mg d.name = some (.ref fa) →
      ∃ (K : PySem.W.Frag) (fd : FuncData), K.In h ∧ (∀ (s : Shared) (u : Value), BindsTo s fd ⟨[u], []⟩ [(x, u)]) ∧
        ∀ base : Heap, K.In base → base.Ns mainGlobals mg → FnG l.prog w K mg base CX lv fa fd [x] (spLaw K (g K)))
    (hg : ∀ (K : PySem.W.Frag) (ns : List Int) (Q : Res → List D → Prop), ns.length ≤ n → (∀ o, Q (.fz (.bool true)) o) → g K [.list (ns.map PyData.int)] Q)
    (noX : ∀ (H : Hp) (s : Shared) (e : Value) (s' : Shared), CX [] H s (fun _ _ _ => False) e s' → False) :
    PySem.W.WalkO q loose XP YP l.row.toRowW d [] (fun f vs => PySem.call f vs) := by
  apply Att.attach_call hn hdf
  intro w s0 s1 mg mb fa o pm cd doc a us ns G Y ho hd hcd hmg obj iar len gens
  obtain ⟨K, fd, inK, bind, hF⟩ := F w mg fa _ Y G.T.g hmg
  refine law_enter inK G.T.g G.T.b G.T.builtins G.T.nolimit gens obj iar (Nat.le_trans len hn2) rm hF bind ?_ (fun H e s' => noX H s1 e s')
  intro H hS
  refine ⟨fun _ => none, H, [.list (ns.map PyData.int)], rfl, rfl, ⟨H, ?_⟩, hg K ns _ len (fun outs hgd ho v H' h => ?_)⟩
  · refine ⟨⟨Ex.refl _, Ex.refl _, (fun _ _ z => nomatch z), fun _ z => absurd rfl z, rfl, fun i dd z => ?_, fun i dd z => ?_, fun i k dd z hk => ?_, fun i j p k k' d1 d2 z hk => ?_⟩, rfl, fun i v z => by simp at z, fun j v z => by simp [iosFrom] at z⟩
    · cases i <;> simp [argE, tE] at z
    · cases i with
      | zero =>
        simp [argE, tE] at z
        exact ⟨a, ns, rfl, hS, z.symm⟩
      | succ i => simp [argE, tE] at z
    · cases i with
      | zero => simp [argE, tE] at z; rw [← z.1] at hk; cases hk
      | succ i => simp [argE, tE] at z
    · cases i with
      | zero => simp [argE, tE] at z; rw [← z.1] at hk; cases hk
      | succ i => simp [argE, tE] at z
  · obtain ⟨M, h⟩ := h
    have f := h.tfz (d := .bool true) (v := v) (by simp)
    exact fzb.mp f
end PL
set_option Elab.async false
set_option linter.all false
set_option autoImplicit false
set_option maxRecDepth 100000
set_option maxHeartbeats 4000000
/-! PLh: Python's operators over data. -/
namespace PL
open PySem PySem.Spec PyProof.Rows L2

theorem line_of {n : Nat} (h : n ≤ 100000) : n ≤ sizeLine := Nat.le_trans h (by decide)
theorem ltline_of {n : Nat} (h : n < 100000) : n < sizeLine := Nat.lt_of_lt_of_le h (by decide)
/-- what a reader sees as a list, a tuple -/
theorem vwl {K : PySem.W.Frag} {M H : Hp} {ds : List D} {v : V} : Vw K M H (.list ds) v ↔ ∃ a vs, v = .ref a ∧ H a = some (.lst vs) ∧ FzL K M ds vs := Iff.rfl
theorem vwt {K : PySem.W.Frag} {M H : Hp} {ds : List D} {v : V} : Vw K M H (.tuple ds) v ↔ ∃ a vs, v = .ref a ∧ SqN K M ds a vs ∧ FzL K M ds vs := by
  show Fz K M (.tuple ds) v ↔ _
  simp only [Fz]
section
variable {X : Cx}
def gAdd : D → D → (Out → Prop) → Prop
  | .int i, .int j, Q => Q (.val (.int (i + j)))
  | .str a, .str b, Q => a.length + b.length ≤ 100000 ∧ Q (.val (.str (a ++ b)))
  | .list a, .list b, Q => a.length + b.length ≤ 100000 ∧ Q (.new (.list (a ++ b)))
  | .tuple a, .tuple b, Q => a.length + b.length ≤ 100000 ∧ Q (.tup (a ++ b))
  | _, _, _ => False
abbrev rAddAll (K : PySem.W.Frag) : R2 := fun x y H Q => (fun x y H Q => (fun x y H Q => (rI0 fun i j => .int (i + j)) x y H Q ∨ (fun x y H Q => ∃ i j, x = V.str i ∧ y = V.str j ∧ i.length + j.length ≤ sizeLine ∧ Q (V.str (i ++ j)) H) x y H Q) x y H Q ∨ rCat x y H Q) x y H Q ∨ rCatN K x y H Q
theorem op_addAll : OpR X (binaryOp .Add) (rAddAll X.K) := ((op_add.or op_add_str).or op_cat).or op_catN
theorem g_add {K : PySem.W.Frag} : Op2 K (rAddAll K) gAdd where
  run := fun M H d1 d2 x y Q ex v1 v2 w => by
    unfold gAdd at w
    split at w
    · rw [vwi] at v1 v2
      exact .inl (.inl (.inl ⟨_, _, v1, v2, w _ (fzi.mpr rfl)⟩))
    · rw [vws] at v1 v2
      exact .inl (.inl (.inr ⟨_, _, v1, v2, line_of w.1, w.2 _ (fzs.mpr rfl)⟩))
    · obtain ⟨a, vs, rfl, r1, f1⟩ := v1
      obtain ⟨b, us, rfl, r2, f2⟩ := v2
      refine .inl (.inr ⟨a, b, vs, us, rfl, rfl, r1, r2, ?_, fun p hp => w.2 p _ hp ⟨_, upd_same, f1.append f2⟩⟩)
      rw [← f1.length, ← f2.length]; exact line_of w.1
    · rw [vwt] at v1 v2
      obtain ⟨a, vs, rfl, r1, f1⟩ := v1
      obtain ⟨b, us, rfl, r2, f2⟩ := v2
      obtain ⟨w0, w1, w2⟩ := w
      rename_i as bs
      refine .inr ⟨a, b, vs, us, rfl, rfl, ex.t r1, ex.t r2, by rw [← f1.length, ← f2.length]; exact line_of w0, fun h => ?_, fun h' => ?_, fun p o hp ho => w2 p _ o hp ho (f1.append f2)⟩
      · subst h
        have : as = [] := List.length_eq_zero_iff.mp (by rw [f1.length]; rfl)
        subst this
        exact w1 _ (by simp only [Fz]; exact ⟨b, us, rfl, r2, f2⟩)
      · subst h'
        have : bs = [] := List.length_eq_zero_iff.mp (by rw [f2.length]; rfl)
        subst this
        exact w1 _ (by simp only [Fz, List.append_nil]; exact ⟨a, vs, rfl, r1, f1⟩)
    · exact w.elim
  mono := fun d1 d2 Q Q' h w => by
    unfold gAdd at w ⊢
    split at w
    · exact h _ w
    · exact ⟨w.1, h _ w.2⟩
    · exact ⟨w.1, h _ w.2⟩
    · exact ⟨w.1, h _ w.2⟩
    · exact w.elim
def gSub : D → D → (Out → Prop) → Prop
  | .int i, .int j, Q => Q (.val (.int (i - j)))
  | _, _, _ => False
theorem g_sub {K : PySem.W.Frag} : Op2 K (rI0 fun i j => .int (i - j)) gSub where
  run := fun M H d1 d2 x y Q ex v1 v2 w => by
    unfold gSub at w
    split at w
    · rw [vwi] at v1 v2; exact ⟨_, _, v1, v2, w _ (fzi.mpr rfl)⟩
    · exact w.elim
  mono := fun d1 d2 Q Q' h w => by
    unfold gSub at w ⊢
    split at w
    · exact h _ w
    · exact w.elim
def gMod : D → D → (Out → Prop) → Prop
  | .int i, .int j, Q => 0 < j ∧ Q (.val (.int (i % j)))
  | _, _, _ => False
theorem g_mod {K : PySem.W.Frag} : Op2 K (rI (fun _ j => 0 < j) fun i j => .int (i % j)) gMod where
  run := fun M H d1 d2 x y Q ex v1 v2 w => by
    unfold gMod at w
    split at w
    · rw [vwi] at v1 v2; exact ⟨_, _, v1, v2, w.1, w.2 _ (fzi.mpr rfl)⟩
    · exact w.elim
  mono := fun d1 d2 Q Q' h w => by
    unfold gMod at w ⊢
    split at w
    · exact ⟨w.1, h _ w.2⟩
    · exact w.elim
def gDiv : D → D → (Out → Prop) → Prop
  | .int i, .int j, Q => (0 < j ∧ j < 1073741824) ∧ Q (.val (.int (i / j)))
  | _, _, _ => False
theorem g_div {K : PySem.W.Frag} : Op2 K (rI CDiv fun i j => .int (i / j)) gDiv where
  run := fun M H d1 d2 x y Q ex v1 v2 w => by
    unfold gDiv at w
    split at w
    · rw [vwi] at v1 v2; exact ⟨_, _, v1, v2, w.1, w.2 _ (fzi.mpr rfl)⟩
    · exact w.elim
  mono := fun d1 d2 Q Q' h w => by
    unfold gDiv at w ⊢
    split at w
    · exact ⟨w.1, h _ w.2⟩
    · exact w.elim
def gPow : D → D → (Out → Prop) → Prop
  | .int i, .int j, Q => (0 ≤ j ∧ j ≤ 1000000 ∧ i.natAbs < 2 ^ 64) ∧ Q (.val (.int (i ^ j.toNat)))
  | _, _, _ => False
theorem g_pow {K : PySem.W.Frag} : Op2 K (rI CPow fun i j => .int (i ^ j.toNat)) gPow where
  run := fun M H d1 d2 x y Q ex v1 v2 w => by
    unfold gPow at w
    split at w
    · rw [vwi] at v1 v2; exact ⟨_, _, v1, v2, w.1, w.2 _ (fzi.mpr rfl)⟩
    · exact w.elim
  mono := fun d1 d2 Q Q' h w => by
    unfold gPow at w ⊢
    split at w
    · exact ⟨w.1, h _ w.2⟩
    · exact w.elim
/-! ### * -/
theorem op_mulStr : OpR X (binaryOp .Mult) (fun x y H Q => ∃ a k, x = .str a ∧ y = .int k ∧ MulOk a k ∧ Q (.str (Txt.mul a k)) H) := by
  intro pins s σ H x y v u Q I rx ry h
  obtain ⟨a, k, rfl, rfl, ok, q⟩ := h
  obtain ⟨t, rfl⟩ := rx
  obtain ⟨t', rfl⟩ := ry
  exact SB.mul ok fun t2 k2 => ⟨.str _, H, I.tok k2, ⟨t2, rfl⟩, q⟩
def gMul : D → D → (Out → Prop) → Prop
  | .int i, .int j, Q => ((-(2 ^ 64) < i ∧ i < 2 ^ 64) ∨ (-(2 ^ 64) < j ∧ j < 2 ^ 64)) ∧ Q (.val (.int (i * j)))
  | .str a, .int k, Q => (0 ≤ k ∧ k ≤ 1000 ∧ a.length ≤ 1000) ∧ Q (.val (.str (Txt.mul a k)))
  | .list a, .int k, Q => (0 ≤ k ∧ k ≤ 1000 ∧ a.length ≤ 1000) ∧ Q (.new (.list (List.replicate k.toNat a).flatten))
  | _, _, _ => False
abbrev rMulAll : R2 := fun x y H Q => (fun x y H Q => (rI CMul fun i j => .int (i * j)) x y H Q ∨ (fun x y H Q => ∃ a k, x = V.str a ∧ y = V.int k ∧ MulOk a k ∧ Q (V.str (Txt.mul a k)) H) x y H Q) x y H Q ∨ rRep x y H Q
theorem op_mulAll : OpR X (binaryOp .Mult) rMulAll := (op_mul.or op_mulStr).or op_rep
theorem rep_fz {K : PySem.W.Frag} {M : Hp} {ds : List D} {vs : List V} (h : FzL K M ds vs) : ∀ n : Nat, FzL K M (List.replicate n ds).flatten (List.replicate n vs).flatten
  | 0 => .nil
  | n + 1 => by
    rw [List.replicate_succ, List.replicate_succ, List.flatten_cons, List.flatten_cons]
    exact h.append (rep_fz h n)
theorem mul_ok {a : Str} {k : Int} (h0 : 0 ≤ k) (h1 : k ≤ 1000) (h2 : a.length ≤ 1000) : MulOk a k := by
  exact mulOk_of 4096 4096 (by omega) (by omega) (by omega) (by decide) (by decide)
theorem g_mul {K : PySem.W.Frag} : Op2 K rMulAll gMul where
  run := fun M H d1 d2 x y Q ex v1 v2 w => by
    unfold gMul at w
    split at w
    · rw [vwi] at v1 v2; exact .inl (.inl ⟨_, _, v1, v2, w.1, w.2 _ (fzi.mpr rfl)⟩)
    · rw [vws] at v1; rw [vwi] at v2
      exact .inl (.inr ⟨_, _, v1, v2, mul_ok w.1.1 w.1.2.1 w.1.2.2, w.2 _ (fzs.mpr rfl)⟩)
    · obtain ⟨a, vs, rfl, r1, f1⟩ := v1
      rw [vwi] at v2
      refine .inr ⟨a, _, vs, rfl, v2, r1, by omega, by omega, ?_, fun p hp => w.2 p _ hp ⟨_, upd_same, rep_fz f1 _⟩⟩
      rw [← f1.length]
      rename_i as k
      have h1 : k.toNat ≤ 1000 := by omega
      exact Nat.le_trans (Nat.mul_le_mul w.1.2.2 h1) (by decide)
    · exact w.elim
  mono := fun d1 d2 Q Q' h w => by
    unfold gMul at w ⊢
    split at w
    · exact ⟨w.1, h _ w.2⟩
    · exact ⟨w.1, h _ w.2⟩
    · exact ⟨w.1, h _ w.2⟩
    · exact w.elim
/-! ### order -/
/-- the order of texts, as Python has it -/
def sLt (a b : Str) : Bool := decide (a.cps.toList < b.cps.toList)
def gCmp (p : Int → Int → Bool) (q : Str → Str → Bool) : D → D → (Out → Prop) → Prop
  | .int i, .int j, Q => Q (.val (.bool (p i j)))
  | .str a, .str b, Q => Q (.val (.bool (q a b)))
  | _, _, _ => False
abbrev rCmp (p : Int → Int → Bool) (q : Str → Str → Bool) : R2 := fun x y H Q => (rI0 fun i j => .bl (p i j)) x y H Q ∨ (fun x y H Q => ∃ i j, x = V.str i ∧ y = V.str j ∧ Q (V.bl (q i j)) H) x y H Q
theorem g_cmp {K : PySem.W.Frag} (p : Int → Int → Bool) (q : Str → Str → Bool) : Op2 K (rCmp p q) (gCmp p q) where
  run := fun M H d1 d2 x y Q ex v1 v2 w => by
    unfold gCmp at w
    split at w
    · rw [vwi] at v1 v2; exact .inl ⟨_, _, v1, v2, w _ (fzb.mpr rfl)⟩
    · rw [vws] at v1 v2; exact .inr ⟨_, _, v1, v2, w _ (fzb.mpr rfl)⟩
    · exact w.elim
  mono := fun d1 d2 Q Q' h w => by
    unfold gCmp at w ⊢
    split at w
    · exact h _ w
    · exact h _ w
    · exact w.elim
abbrev gLt := gCmp (fun i j => decide (i < j)) sLt
abbrev gLe := gCmp (fun i j => decide (i ≤ j)) (fun a b => !sLt b a)
abbrev gGt := gCmp (fun i j => decide (j < i)) (fun a b => sLt b a)
abbrev gGe := gCmp (fun i j => decide (j ≤ i)) (fun a b => !sLt a b)
theorem op_ltA : OpR X (compareOp .Lt) (rCmp (fun i j => decide (i < j)) sLt) := op_lt.or op_lt_str
theorem op_leA : OpR X (compareOp .LtE) (rCmp (fun i j => decide (i ≤ j)) (fun a b => !sLt b a)) := op_le.or op_le_str
theorem op_gtA : OpR X (compareOp .Gt) (rCmp (fun i j => decide (j < i)) (fun a b => sLt b a)) := op_gt.or op_gt_str
theorem op_geA : OpR X (compareOp .GtE) (rCmp (fun i j => decide (j ≤ i)) (fun a b => !sLt a b)) := op_ge.or op_ge_str
/-! ### ==, != -/
def flat : D → Bool
  | .list _ => false
  | .tuple _ => false
  | .dict _ => false
  | _ => true
mutual
theorem fz_dp {K : PySem.W.Frag} {M H : Hp} (ex : Ex M H) : ∀ (d : D) (v : V), d.canLay0 = true → Fz K M d v → Dp K H v d
  | .none, v, _, h => by rw [fzn.mp h]; exact .non
  | .bool b, v, _, h => by rw [fzb.mp h]; exact .bl b
  | .int b, v, _, h => by rw [fzi.mp h]; exact .int b
  | .str b, v, _, h => by rw [fzs.mp h]; exact .str b
  | .list ds, v, c, h => by
    simp only [Fz] at h
    obtain ⟨a, vs, rfl, r, f⟩ := h
    exact .lst (.inl (.inl (ex _ _ r))) (fz_dpAll ex ds vs (by simpa [PyData.canLay0] using c) f)
  | .tuple ds, v, c, h => by
    simp only [Fz] at h
    obtain ⟨a, vs, rfl, r, f⟩ := h
    exact .tup (ex.t r) (fz_dpAll ex ds vs (by simpa [PyData.canLay0] using c) f)
  | .dict kds, v, c, h => by simp [PyData.canLay0] at c
theorem fz_dpAll {K : PySem.W.Frag} {M H : Hp} (ex : Ex M H) : ∀ (ds : List D) (vs : List V), PyData.canLayAll0 ds = true → FzL K M ds vs → DpAll K H vs ds
  | [], vs, _, h => by simp only [FzL] at h; subst h; exact .nil
  | d :: ds, vs, c, h => by
    simp only [FzL] at h
    obtain ⟨v, r, rfl, h1, h2⟩ := h
    rw [PyData.canLayAll0, Bool.and_eq_true] at c
    exact .cons (fz_dp ex d v c.1 h1) (fz_dpAll ex ds r c.2 h2)
end
theorem vw_dp {K : PySem.W.Frag} {M H : Hp} (ex : Ex M H) {d : D} {v : V} (c : d.canLay0 = true) (h : Vw K M H d v) : Dp K H v d := by
  cases d with
  | list ds =>
    obtain ⟨a, vs, rfl, r, f⟩ := h
    exact .lst (.inl (.inl r)) (fz_dpAll ex ds vs (by simpa [PyData.canLay0] using c) f)
  | dict kds => simp [PyData.canLay0] at c
  | none => exact fz_dp ex _ v c h
  | bool b => exact fz_dp ex _ v c h
  | int b => exact fz_dp ex _ v c h
  | str b => exact fz_dp ex _ v c h
  | tuple b => exact fz_dp ex _ v c h
def eqOk : D → D → Prop
  | .int _, .int _ => True
  | .str _, .str _ => True
  | .bool _, .bool _ => True
  | .none, .str _ => True
  | .str _, .none => True
  | .none, .int _ => True
  | .int _, .none => True
  | .none, .bool _ => True
  | .bool _, .none => True
  | .none, .none => True
  | .str _, .int _ => True
  | .int _, .str _ => True
  | .str _, .bool _ => True
  | .bool _, .str _ => True
  | d, e => SeqAt.shaped d = true ∧ SeqAt.shaped e = true
def gEq (d e : D) (Q : Out → Prop) : Prop := eqOk d e ∧ Q (.val (.bool (PyData.eqv d e)))
def gNe (d e : D) (Q : Out → Prop) : Prop := eqOk d e ∧ Q (.val (.bool (!PyData.eqv d e)))
abbrev rEqA (K : PySem.W.Frag) : R2 := fun x y H Q => rEq x y H Q ∨ rEqD K x y H Q
abbrev rNeA (K : PySem.W.Frag) : R2 := fun x y H Q => rNe x y H Q ∨ rNeD K x y H Q
theorem op_eqA (hu : X.A.units + 64 < cLine) : OpR X (compareOp .Eq) (rEqA X.K) := op_eq.or (op_eqD hu)
theorem op_neA (hu : X.A.units + 64 < cLine) : OpR X (compareOp .NotEq) (rNeA X.K) := op_ne.or (op_neD hu)
theorem eq_cases {K : PySem.W.Frag} {M H : Hp} (ex : Ex M H) {d1 d2 : D} {x y : V} (ok : eqOk d1 d2) (v1 : Vw K M H d1 x) (v2 : Vw K M H d2 y) :
    (scal x y = true ∧ decide (x = y) = PyData.eqv d1 d2) ∨ (Dp K H x d1 ∧ Dp K H y d2 ∧ SeqAt.shaped d1 = true ∧ SeqAt.shaped d2 = true) := by
  have dec : ∀ (a b : Bool), (a = true ↔ b = true) → a = b := fun a b h => Bool.eq_iff_iff.mpr h
  unfold eqOk at ok
  split at ok
  · rw [vwi] at v1 v2; subst v1 v2; exact .inl ⟨rfl, dec _ _ (by simp [PyData.eqv])⟩
  · rw [vws] at v1 v2; subst v1 v2; exact .inl ⟨rfl, dec _ _ (by simp [PyData.eqv])⟩
  · rw [vwb] at v1 v2; subst v1 v2; exact .inl ⟨rfl, dec _ _ (by simp [PyData.eqv])⟩
  · rw [vwn] at v1; rw [vws] at v2; subst v1 v2; exact .inl ⟨rfl, by simp [PyData.eqv]⟩
  · rw [vws] at v1; rw [vwn] at v2; subst v1 v2; exact .inl ⟨rfl, by simp [PyData.eqv]⟩
  · rw [vwn] at v1; rw [vwi] at v2; subst v1 v2; exact .inl ⟨rfl, by simp [PyData.eqv]⟩
  · rw [vwi] at v1; rw [vwn] at v2; subst v1 v2; exact .inl ⟨rfl, by simp [PyData.eqv]⟩
  · rw [vwn] at v1; rw [vwb] at v2; subst v1 v2; exact .inl ⟨rfl, by simp [PyData.eqv]⟩
  · rw [vwb] at v1; rw [vwn] at v2; subst v1 v2; exact .inl ⟨rfl, by simp [PyData.eqv]⟩
  · rw [vwn] at v1 v2; subst v1 v2; exact .inl ⟨rfl, by simp [PyData.eqv]⟩
  · rw [vws] at v1; rw [vwi] at v2; subst v1 v2; exact .inl ⟨rfl, by simp [PyData.eqv]⟩
  · rw [vwi] at v1; rw [vws] at v2; subst v1 v2; exact .inl ⟨rfl, by simp [PyData.eqv]⟩
  · rw [vws] at v1; rw [vwb] at v2; subst v1 v2; exact .inl ⟨rfl, by simp [PyData.eqv]⟩
  · rw [vwb] at v1; rw [vws] at v2; subst v1 v2; exact .inl ⟨rfl, by simp [PyData.eqv]⟩
  · exact .inr ⟨vw_dp ex (SeqAt.canLay_of_shaped ok.1) v1, vw_dp ex (SeqAt.canLay_of_shaped ok.2) v2, ok.1, ok.2⟩
theorem g_eq {K : PySem.W.Frag} : Op2 K (rEqA K) gEq where
  run := fun M H d1 d2 x y Q ex v1 v2 w => by
    rcases eq_cases ex w.1 v1 v2 with ⟨h1, h2⟩ | ⟨h1, h2, h3, h4⟩
    · exact .inl ⟨h1, by rw [h2]; exact w.2 _ (fzb.mpr rfl)⟩
    · exact .inr ⟨d1, d2, h1, h2, h3, h4, w.2 _ (fzb.mpr rfl)⟩
  mono := fun d1 d2 Q Q' h w => ⟨w.1, h _ w.2⟩
theorem g_ne {K : PySem.W.Frag} : Op2 K (rNeA K) gNe where
  run := fun M H d1 d2 x y Q ex v1 v2 w => by
    rcases eq_cases ex w.1 v1 v2 with ⟨h1, h2⟩ | ⟨h1, h2, h3, h4⟩
    · exact .inl ⟨h1, by rw [h2]; exact w.2 _ (fzb.mpr rfl)⟩
    · exact .inr ⟨d1, d2, h1, h2, h3, h4, w.2 _ (fzb.mpr rfl)⟩
  mono := fun d1 d2 Q Q' h w => ⟨w.1, h _ w.2⟩
/-! ### in, not in -/
/-- one of a list or a tuple of flat things; one sign of a text; a text's part is served where it is one sign -/
def inD (d : D) (ds : List D) : Bool := ds.any fun z => PyData.eqv z d
def gIn (neg : Bool) (d e : D) (Q : Out → Prop) : Prop := match e with
  | .str z => ∃ c, d = .str ⟨#[c]⟩ ∧ Q (.val (.bool (if neg then !decide (c ∈ z.cps.toList) else decide (c ∈ z.cps.toList))))
  | .list ds => (flat d = true ∧ ds.all flat = true) ∧ Q (.val (.bool (if neg then !inD d ds else inD d ds)))
  | .tuple ds => (flat d = true ∧ ds.all flat = true) ∧ Q (.val (.bool (if neg then !inD d ds else inD d ds)))
  | _ => False
theorem flat_v {K : PySem.W.Frag} {M : Hp} {d : D} {v : V} (h : flat d = true) (f : Fz K M d v) : flatV v = true := by
  cases d <;> simp only [flat] at h <;> first | cases h | skip
  · rw [fzn.mp f]; rfl
  · rw [fzb.mp f]; rfl
  · rw [fzi.mp f]; rfl
  · rw [fzs.mp f]; rfl
theorem flat_eq {K : PySem.W.Frag} {M : Hp} {d e : D} {v w : V} (h : flat d = true) (h' : flat e = true) (f : Fz K M d v) (f' : Fz K M e w) : eqV v w = PyData.eqv d e := by
  cases d <;> simp only [flat] at h <;> first | cases h | skip
  all_goals cases e <;> simp only [flat] at h' <;> first | cases h' | skip
  all_goals simp only [Fz] at f f'; subst f f'; rfl
theorem flat_all {K : PySem.W.Frag} {M : Hp} : ∀ {ds : List D} {vs : List V}, ds.all flat = true → FzL K M ds vs → vs.all flatV = true
  | [], vs, _, h => by simp only [FzL] at h; subst h; rfl
  | d :: ds, vs, c, h => by
    simp only [FzL] at h
    obtain ⟨v, r, rfl, h1, h2⟩ := h
    simp only [List.all_cons, Bool.and_eq_true] at c ⊢
    exact ⟨flat_v c.1 h1, flat_all c.2 h2⟩
theorem flat_any {K : PySem.W.Frag} {M : Hp} {d : D} {v : V} (hd : flat d = true) (hv : Fz K M d v) : ∀ {ds : List D} {vs : List V}, ds.all flat = true → FzL K M ds vs → inV v vs = inD d ds
  | [], vs, _, h => by simp only [FzL] at h; subst h; rfl
  | e :: ds, vs, c, h => by
    simp only [FzL] at h
    obtain ⟨w, r, rfl, h1, h2⟩ := h
    simp only [List.all_cons, Bool.and_eq_true] at c
    have ih := flat_any hd hv c.2 h2
    unfold inV inD at ih ⊢
    rw [List.any_cons, List.any_cons, ih, flat_eq c.1 hd h1 hv]
theorem vw_flat {K : PySem.W.Frag} {M H : Hp} {d : D} {v : V} (h : flat d = true) (f : Vw K M H d v) : Fz K M d v := by
  cases d <;> first | exact f | cases h
abbrev rInA (K : PySem.W.Frag) (neg : Bool) : R2 := fun x y H Q => (fun x y H Q => ∃ (c : Nat) (z : Str), x = V.str ⟨#[c]⟩ ∧ y = V.str z ∧ Q (V.bl (if neg then !decide (c ∈ z.cps.toList) else decide (c ∈ z.cps.toList))) H) x y H Q ∨ rIn K neg x y H Q
theorem op_inA : OpR X (compareOp .In) (rInA X.K false) := OpR.or (fun pins s σ H x y v u Q I rx ry ⟨c, z, h1, h2, q⟩ => op_in_sign pins s σ H x y v u Q I rx ry ⟨c, z, h1, h2, q⟩) op_in_seq
theorem op_notInA : OpR X (compareOp .NotIn) (rInA X.K true) := OpR.or (fun pins s σ H x y v u Q I rx ry ⟨c, z, h1, h2, q⟩ => op_notIn_sign pins s σ H x y v u Q I rx ry ⟨c, z, h1, h2, q⟩) op_notIn_seq
theorem g_in {K : PySem.W.Frag} (neg : Bool) : Op2 K (rInA K neg) (gIn neg) where
  run := fun M H d1 d2 x y Q ex v1 v2 w => by
    cases d2 with
    | str z =>
      obtain ⟨c, rfl, w⟩ := w
      rw [vws] at v1 v2
      exact .inl ⟨_, _, v1, v2, w _ (fzb.mpr rfl)⟩
    | list ds =>
      obtain ⟨⟨w1, w2⟩, w⟩ := w
      obtain ⟨a, vs, rfl, r, f⟩ := v2
      have f1 := vw_flat w1 v1
      refine .inr ⟨a, vs, rfl, .inl (.inl (.inl r)), flat_v w1 f1, flat_all w2 f, ?_⟩
      rw [flat_any w1 f1 w2 f]
      exact w _ (fzb.mpr rfl)
    | tuple ds =>
      obtain ⟨⟨w1, w2⟩, w⟩ := w
      rw [vwt] at v2
      obtain ⟨a, vs, rfl, r, f⟩ := v2
      have f1 := vw_flat w1 v1
      refine .inr ⟨a, vs, rfl, .inr (ex.t r), flat_v w1 f1, flat_all w2 f, ?_⟩
      rw [flat_any w1 f1 w2 f]
      exact w _ (fzb.mpr rfl)
    | _ => exact (show False from w).elim
  mono := fun d1 d2 Q Q' h w => by
    cases d2 with
    | str z => obtain ⟨c, e, w⟩ := w; exact ⟨c, e, h _ w⟩
    | list ds => exact ⟨w.1, h _ w.2⟩
    | tuple ds => exact ⟨w.1, h _ w.2⟩
    | _ => exact (show False from w).elim
/-! ### is None, is True -/
def gIs (neg : Bool) : D → D → (Out → Prop) → Prop
  | d, .none, Q => Q (.val (.bool (if neg then !(PyData.eqv d .none) else PyData.eqv d .none)))
  | .bool a, .bool b, Q => Q (.val (.bool (if neg then !decide (a = b) else decide (a = b))))
  | _, _, _ => False
abbrev rIsA (neg : Bool) : R2 := fun x y H Q => (fun x y H Q => y = V.non ∧ Q (V.bl (if neg then !decide (x = V.non) else decide (x = V.non))) H) x y H Q ∨ (fun x y H Q => ∃ a b : Bool, x = V.bl a ∧ y = V.bl b ∧ Q (V.bl (if neg then !decide (a = b) else decide (a = b))) H) x y H Q
theorem op_isA : OpR X (compareOp .Is) (rIsA false) := OpR.or op_isN op_is_bl
theorem op_isNotA : OpR X (compareOp .IsNot) (rIsA true) := OpR.or op_notN op_isnot_bl
theorem is_non {K : PySem.W.Frag} {M H : Hp} {d : D} {x : V} (v : Vw K M H d x) : decide (x = V.non) = PyData.eqv d .none := by
  cases d with
  | none => rw [vwn.mp v]; rfl
  | bool b => rw [vwb.mp v]; rfl
  | int b => rw [vwi.mp v]; rfl
  | str b => rw [vws.mp v]; rfl
  | list ds => obtain ⟨a, vs, rfl, _⟩ := v; rfl
  | tuple ds => rw [vwt] at v; obtain ⟨a, vs, rfl, _⟩ := v; rfl
  | dict ds => obtain ⟨a, rfl, _⟩ := v; rfl
theorem g_is {K : PySem.W.Frag} (neg : Bool) : Op2 K (rIsA neg) (gIs neg) where
  run := fun M H d1 d2 x y Q ex v1 v2 w => by
    unfold gIs at w
    split at w
    · rw [vwn] at v2
      refine .inl ⟨v2, ?_⟩
      rw [is_non v1]
      exact w _ (fzb.mpr rfl)
    · rw [vwb] at v1 v2
      exact .inr ⟨_, _, v1, v2, w _ (fzb.mpr rfl)⟩
    · exact w.elim
  mono := fun d1 d2 Q Q' h w => by
    unfold gIs at w ⊢
    split at w
    · exact h _ w
    · exact h _ w
    · exact w.elim
end
end PL
set_option Elab.async false
set_option linter.all false
set_option autoImplicit false
set_option maxRecDepth 100000
set_option maxHeartbeats 4000000
/-! PLi: subscripts, slices, built-ins, methods, iterables over data. -/
namespace PL
open PySem PySem.Spec PyProof.Rows L2

section
variable {X : Cx}
theorem CallR.or {f : Value} {r r' : List V → Hp → VK → Prop} (h : CallR X f r) (h' : CallR X f r') : CallR X f (fun xs H Q => r xs H Q ∨ r' xs H Q) := by
  intro pins s σ H xs us Q I rv q
  rcases q with q | q
  · exact h pins s σ H xs us Q I rv q
  · exact h' pins s σ H xs us Q I rv q
/-! ### x[i] -/
theorem fz_atI {K : PySem.W.Frag} {M : Hp} {ds : List D} {vs : List V} {i : Int} {d : D} (f : FzL K M ds vs) (h : atI ds i = some d) : ∃ v, atI vs i = some v ∧ Fz K M d v := by
  unfold atI at h ⊢
  rw [f.length] at h
  cases e : ixN vs.length i with
  | none => rw [e] at h; cases h
  | some j =>
    rw [e] at h
    exact f.get (show ds[j]? = some d from h)
def gIx : D → D → (Out → Prop) → Prop
  | .list ds, .int i, Q => ∃ d, atI ds i = some d ∧ Q (.val d)
  | .tuple ds, .int i, Q => ∃ d, atI ds i = some d ∧ Q (.val d)
  | .str z, .int i, Q => z.length ≤ 100000 ∧ ∃ c, atI z.cps.toList i = some c ∧ Q (.val (.str ⟨#[c]⟩))
  | _, _, _ => False
theorem g_ix {K : PySem.W.Frag} : Op2 K (rIx K) gIx where
  run := fun M H d1 d2 x y Q ex v1 v2 w => by
    unfold gIx at w
    split at w
    · obtain ⟨d, h, w⟩ := w
      obtain ⟨a, vs, rfl, r, f⟩ := v1
      rw [vwi] at v2
      obtain ⟨v, q, fv⟩ := fz_atI f h
      exact .inl ⟨a, vs, _, v, rfl, v2, .inl (.inl r), q, w v fv⟩
    · obtain ⟨d, h, w⟩ := w
      rw [vwt] at v1
      obtain ⟨a, vs, rfl, r, f⟩ := v1
      rw [vwi] at v2
      obtain ⟨v, q, fv⟩ := fz_atI f h
      exact .inr (.inl ⟨a, vs, _, v, rfl, v2, ex.t r, q, w v fv⟩)
    · obtain ⟨hz, c, h, w⟩ := w
      rw [vws] at v1; rw [vwi] at v2
      exact .inr (.inr ⟨_, _, c, v1, v2, line_of hz, h, w _ (fzs.mpr rfl)⟩)
    · exact w.elim
  mono := fun d1 d2 Q Q' h w => by
    unfold gIx at w ⊢
    split at w
    · obtain ⟨d, q, w⟩ := w; exact ⟨d, q, h _ w⟩
    · obtain ⟨d, q, w⟩ := w; exact ⟨d, q, h _ w⟩
    · obtain ⟨z, d, q, w⟩ := w; exact ⟨z, d, q, h _ w⟩
    · exact w.elim
/-! ### x[a:b] -/
def cutD (ds : List D) (lo hi : Option Int) : List D := (ds.drop (HT.sIx ds.length 0 lo)).take (HT.sIx ds.length ds.length hi - HT.sIx ds.length 0 lo)
def gSl : D → Option Int → Option Int → (Out → Prop) → Prop
  | .list ds, lo, hi, Q => Q (.new (.list (cutD ds lo hi)))
  | .tuple ds, lo, hi, Q => Q (.tup (cutD ds lo hi))
  | .str z, lo, hi, Q => z.length ≤ 100000 ∧ Q (.val (.str (cutS z lo hi)))
  | _, _, _, _ => False
abbrev rSlAll (K : PySem.W.Frag) : V → Option Int → Option Int → Hp → VK → Prop := fun x lo hi H Q => (fun x lo hi H Q => rSlL K x lo hi H Q ∨ rSlN K x lo hi H Q) x lo hi H Q ∨ rSlS x lo hi H Q
theorem sl_all : SlR X (rSlAll X.K) := (sl_list.or sl_tupN).or sl_str
theorem fz_cut {K : PySem.W.Frag} {M : Hp} {ds : List D} {vs : List V} {lo hi : Option Int} (f : FzL K M ds vs) : FzL K M (cutD ds lo hi) (cutV vs lo hi) := by
  unfold cutD cutV
  rw [f.length]
  exact (f.drop _).take _
theorem g_sl {K : PySem.W.Frag} : OpS K (rSlAll K) gSl where
  run := fun M H d x lo hi Q ex v w => by
    cases d with
    | list ds =>
      obtain ⟨a, vs, rfl, r, f⟩ := v
      exact .inl (.inl ⟨a, vs, rfl, .inl (.inl r), fun p hp => w p _ hp ⟨_, upd_same, fz_cut f⟩⟩)
    | tuple ds =>
      rw [vwt] at v
      obtain ⟨a, vs, rfl, r, f⟩ := v
      have w : Gives K M H Q (.tup (cutD ds lo hi)) := w
      refine .inl (.inr ⟨a, vs, rfl, ex.t r, fun h => ?_, fun p o hp ho => w.2 p _ o hp ho (fz_cut f)⟩)
      have e : cutD ds lo hi = ds := by
        unfold cutD
        rw [f.length, h.1, h.2, List.drop_zero, Nat.sub_zero, ← f.length, List.take_length]
      rw [e] at w
      exact w.1 _ (by simp only [Fz]; exact ⟨a, vs, rfl, r, f⟩)
    | str z =>
      rw [vws] at v
      exact .inr ⟨_, v, line_of w.1, w.2 _ (fzs.mpr rfl)⟩
    | _ => exact (show False from w).elim
  mono := fun d lo hi Q Q' h w => by
    cases d with
    | list ds => exact h _ w
    | tuple ds => exact h _ w
    | str z => exact ⟨w.1, h _ w.2⟩
    | _ => exact (show False from w).elim
/-! ### built-ins -/
theorem vwl1 {K : PySem.W.Frag} {M H : Hp} {d : D} {vs : List V} (h : VwL K M H [d] vs) : ∃ v, vs = [v] ∧ Vw K M H d v := by
  simp only [VwL] at h
  obtain ⟨v, r, rfl, h, rfl⟩ := h
  exact ⟨v, rfl, h⟩
theorem vwl2 {K : PySem.W.Frag} {M H : Hp} {d e : D} {vs : List V} (h : VwL K M H [d, e] vs) : ∃ v w, vs = [v, w] ∧ Vw K M H d v ∧ Vw K M H e w := by
  simp only [VwL] at h
  obtain ⟨v, r, rfl, h, w, r', rfl, h', rfl⟩ := h
  exact ⟨v, w, rfl, h, h'⟩
/-- a built-in of one argument -/
def g1 (g : D → (Out → Prop) → Prop) : List D → (Out → Prop) → Prop
  | [d], Q => g d Q
  | _, _ => False
def g2 (g : D → D → (Out → Prop) → Prop) : List D → (Out → Prop) → Prop
  | [d, e], Q => g d e Q
  | _, _ => False
theorem op_g1 {K : PySem.W.Frag} {r : List V → Hp → VK → Prop} {g : D → (Out → Prop) → Prop} (run : ∀ M H d x Q, Ex M H → Vw K M H d x → g d (Gives K M H Q) → r [x] H Q) (mono : ∀ d Q Q', (∀ o, Q o → Q' o) → g d Q → g d Q') : OpN K r (g1 g) where
  run := fun M H ds vs Q ex v w => by
    match ds, w with
    | [d], w =>
      obtain ⟨x, rfl, v'⟩ := vwl1 v
      exact run M H d x Q ex v' w
  mono := fun ds Q Q' h w => by
    match ds, w with
    | [d], w => exact mono d Q Q' h w
theorem op_g2 {K : PySem.W.Frag} {r : List V → Hp → VK → Prop} {g : D → D → (Out → Prop) → Prop} (run : ∀ M H d e x y Q, Ex M H → Vw K M H d x → Vw K M H e y → g d e (Gives K M H Q) → r [x, y] H Q) (mono : ∀ d e Q Q', (∀ o, Q o → Q' o) → g d e Q → g d e Q') : OpN K r (g2 g) where
  run := fun M H ds vs Q ex v w => by
    match ds, w with
    | [d, e], w =>
      obtain ⟨x, y, rfl, v1, v2⟩ := vwl2 v
      exact run M H d e x y Q ex v1 v2 w
  mono := fun ds Q Q' h w => by
    match ds, w with
    | [d, e], w => exact mono d e Q Q' h w
def gLen : D → (Out → Prop) → Prop
  | .list ds, Q => Q (.val (.int ds.length))
  | .tuple ds, Q => Q (.val (.int ds.length))
  | .str z, Q => z.length ≤ 100000 ∧ Q (.val (.int z.length))
  | _, _ => False
theorem g_len {K : PySem.W.Frag} : OpN K (fun xs H Q => ∃ x n, xs = [x] ∧ LenV K x H n ∧ Q (.int n) H) (g1 gLen) := op_g1 (fun M H d x Q ex v w => by
    unfold gLen at w
    split at w
    · obtain ⟨a, vs, rfl, r, f⟩ := v
      exact ⟨_, _, rfl, .inl ⟨vs, .inl (.inl r), rfl⟩, by rw [← f.length]; exact w _ (fzi.mpr rfl)⟩
    · rw [vwt] at v
      obtain ⟨a, vs, rfl, r, f⟩ := v
      exact ⟨_, _, rfl, .inr ⟨vs, ex.t r, rfl⟩, by rw [← f.length]; exact w _ (fzi.mpr rfl)⟩
    · rw [vws] at v; subst v
      exact ⟨_, _, rfl, ⟨line_of w.1, rfl⟩, w.2 _ (fzi.mpr rfl)⟩
    · exact w.elim) fun d Q Q' h w => by
    unfold gLen at w ⊢
    split at w
    · exact h _ w
    · exact h _ w
    · exact ⟨w.1, h _ w.2⟩
    · exact w.elim
def gAbs : D → (Out → Prop) → Prop
  | .int i, Q => Q (.val (.int (if i < 0 then -i else i)))
  | _, _ => False
theorem g_abs {K : PySem.W.Frag} : OpN K (fun xs H Q => ∃ i, xs = [.int i] ∧ Q (.int (if i < 0 then -i else i)) H) (g1 gAbs) := op_g1 (fun M H d x Q ex v w => by
    unfold gAbs at w
    split at w
    · rw [vwi] at v; subst v; exact ⟨_, rfl, w _ (fzi.mpr rfl)⟩
    · exact w.elim) fun d Q Q' h w => by
    unfold gAbs at w ⊢
    split at w
    · exact h _ w
    · exact w.elim
def gInt : D → (Out → Prop) → Prop
  | .int i, Q => Q (.val (.int i))
  | .bool b, Q => Q (.val (.int (if b then 1 else 0)))
  | _, _ => False
theorem g_int {K : PySem.W.Frag} : OpN K (fun xs H Q => (∃ i, xs = [.int i] ∧ Q (.int i) H) ∨ ∃ k, xs = [.bl k] ∧ Q (.int (if k then 1 else 0)) H) (g1 gInt) := op_g1 (fun M H d x Q ex v w => by
    unfold gInt at w
    split at w
    · rw [vwi] at v; subst v; exact .inl ⟨_, rfl, w _ (fzi.mpr rfl)⟩
    · rw [vwb] at v; subst v; exact .inr ⟨_, rfl, w _ (fzi.mpr rfl)⟩
    · exact w.elim) fun d Q Q' h w => by
    unfold gInt at w ⊢
    split at w
    · exact h _ w
    · exact h _ w
    · exact w.elim
/-! max, min of two numbers -/
def gI2 (f : Int → Int → Int) : D → D → (Out → Prop) → Prop
  | .int i, .int j, Q => Q (.val (.int (f i j)))
  | _, _, _ => False
theorem g_i2 {K : PySem.W.Frag} (f : Int → Int → Int) : OpN K (fun xs H Q => ∃ i j, xs = [.int i, .int j] ∧ Q (.int (f i j)) H) (g2 (gI2 f)) := op_g2 (fun M H d e x y Q ex v v' w => by
    unfold gI2 at w
    split at w
    · rw [vwi] at v v'; subst v v'; exact ⟨_, _, rfl, w _ (fzi.mpr rfl)⟩
    · exact w.elim) fun d e Q Q' h w => by
    unfold gI2 at w ⊢
    split at w
    · exact h _ w
    · exact w.elim
abbrev gMax2 := gI2 fun i j => if j > i then j else i
abbrev gMin2 := gI2 fun i j => if j < i then j else i
/-! lists of numbers, of truths, of texts -/
def ints? : List D → Option (List Int)
  | [] => some []
  | .int i :: r => (ints? r).map (i :: ·)
  | _ => none
def bools? : List D → Option (List Bool)
  | [] => some []
  | .bool i :: r => (bools? r).map (i :: ·)
  | _ => none
def strs? : List D → Option (List Str)
  | [] => some []
  | .str i :: r => (strs? r).map (i :: ·)
  | _ => none
theorem ints_fz {K : PySem.W.Frag} {M : Hp} : ∀ {ds : List D} {ns : List Int} {vs : List V}, ints? ds = some ns → FzL K M ds vs → vs = ns.map V.int
  | [], ns, vs, h, f => by cases h; simp only [FzL] at f; exact f
  | .int i :: r, ns, vs, h, f => by
    simp only [FzL] at f
    obtain ⟨v, vr, rfl, f1, f2⟩ := f
    rw [ints?] at h
    cases e : ints? r with
    | none => rw [e] at h; cases h
    | some ms => rw [e] at h; cases h; rw [fzi.mp f1, ints_fz e f2]; rfl
  | .none :: r, ns, vs, h, f => by simp [ints?] at h
  | .bool _ :: r, ns, vs, h, f => by simp [ints?] at h
  | .str _ :: r, ns, vs, h, f => by simp [ints?] at h
  | .list _ :: r, ns, vs, h, f => by simp [ints?] at h
  | .tuple _ :: r, ns, vs, h, f => by simp [ints?] at h
  | .dict _ :: r, ns, vs, h, f => by simp [ints?] at h
theorem bools_fz {K : PySem.W.Frag} {M : Hp} : ∀ {ds : List D} {ns : List Bool} {vs : List V}, bools? ds = some ns → FzL K M ds vs → vs = ns.map V.bl
  | [], ns, vs, h, f => by cases h; simp only [FzL] at f; exact f
  | .bool i :: r, ns, vs, h, f => by
    simp only [FzL] at f
    obtain ⟨v, vr, rfl, f1, f2⟩ := f
    rw [bools?] at h
    cases e : bools? r with
    | none => rw [e] at h; cases h
    | some ms => rw [e] at h; cases h; rw [fzb.mp f1, bools_fz e f2]; rfl
  | .none :: r, ns, vs, h, f => by simp [bools?] at h
  | .int _ :: r, ns, vs, h, f => by simp [bools?] at h
  | .str _ :: r, ns, vs, h, f => by simp [bools?] at h
  | .list _ :: r, ns, vs, h, f => by simp [bools?] at h
  | .tuple _ :: r, ns, vs, h, f => by simp [bools?] at h
  | .dict _ :: r, ns, vs, h, f => by simp [bools?] at h
theorem strs_fz {K : PySem.W.Frag} {M : Hp} : ∀ {ds : List D} {ns : List Str} {vs : List V}, strs? ds = some ns → FzL K M ds vs → vs = ns.map V.str
  | [], ns, vs, h, f => by cases h; simp only [FzL] at f; exact f
  | .str i :: r, ns, vs, h, f => by
    simp only [FzL] at f
    obtain ⟨v, vr, rfl, f1, f2⟩ := f
    rw [strs?] at h
    cases e : strs? r with
    | none => rw [e] at h; cases h
    | some ms => rw [e] at h; cases h; rw [fzs.mp f1, strs_fz e f2]; rfl
  | .none :: r, ns, vs, h, f => by simp [strs?] at h
  | .int _ :: r, ns, vs, h, f => by simp [strs?] at h
  | .bool _ :: r, ns, vs, h, f => by simp [strs?] at h
  | .list _ :: r, ns, vs, h, f => by simp [strs?] at h
  | .tuple _ :: r, ns, vs, h, f => by simp [strs?] at h
  | .dict _ :: r, ns, vs, h, f => by simp [strs?] at h
@[simp] theorem ints_map (ns : List Int) : ints? (ns.map PyData.int) = some ns := by
  induction ns with
  | nil => rfl
  | cons n ns ih => simp [ints?, ih]
@[simp] theorem bools_map (ns : List Bool) : bools? (ns.map PyData.bool) = some ns := by
  induction ns with
  | nil => rfl
  | cons n ns ih => simp [bools?, ih]
@[simp] theorem strs_map (ns : List Str) : strs? (ns.map PyData.str) = some ns := by
  induction ns with
  | nil => rfl
  | cons n ns ih => simp [strs?, ih]
def gSum : D → (Out → Prop) → Prop
  | .list ds, Q => ∃ ns, ints? ds = some ns ∧ Q (.val (.int ns.sum))
  | _, _ => False
theorem g_sum {K : PySem.W.Frag} : OpN K (rSum K) (g1 gSum) := op_g1 (fun M H d x Q ex v w => by
    unfold gSum at w
    split at w
    · obtain ⟨ns, h, w⟩ := w
      obtain ⟨a, vs, rfl, r, f⟩ := v
      have := ints_fz h f; subst this
      exact ⟨a, ns, rfl, .inl (.inl r), w _ (fzi.mpr rfl)⟩
    · exact w.elim) fun d Q Q' h w => by
    unfold gSum at w ⊢
    split at w
    · obtain ⟨ns, q, w⟩ := w; exact ⟨ns, q, h _ w⟩
    · exact w.elim
def gBools (f : List Bool → Bool) : D → (Out → Prop) → Prop
  | .list ds, Q => ∃ ns, bools? ds = some ns ∧ Q (.val (.bool (f ns)))
  | _, _ => False
theorem g_bools {K : PySem.W.Frag} (f : List Bool → Bool) : OpN K (fun vs H Q => ∃ (a : Addr) (bs : List Bool), vs = [V.ref a] ∧ SqL K H a (bs.map V.bl) ∧ Q (.bl (f bs)) H) (g1 (gBools f)) := op_g1 (fun M H d x Q ex v w => by
    unfold gBools at w
    split at w
    · obtain ⟨ns, h, w⟩ := w
      obtain ⟨a, vs, rfl, r, f⟩ := v
      have := bools_fz h f; subst this
      exact ⟨a, ns, rfl, .inl (.inl r), w _ (fzb.mpr rfl)⟩
    · exact w.elim) fun d Q Q' h w => by
    unfold gBools at w ⊢
    split at w
    · obtain ⟨ns, q, w⟩ := w; exact ⟨ns, q, h _ w⟩
    · exact w.elim
abbrev gAll := gBools (fun bs => bs.all id)
abbrev gAny := gBools (fun bs => bs.any id)
/-! tuple(x), list(x) -/
def gTup1 : D → (Out → Prop) → Prop
  | .list ds, Q => Q (.tup ds)
  | .tuple ds, Q => Q (.tup ds)
  | _, _ => False
theorem g_tup1 {K : PySem.W.Frag} : OpN K (fun xs H Q => ∃ p ys, xs = [.ref p] ∧ ((SqL K H p ys ∧ ∀ l o, H l = none → o.dict = none → Q (.ref l) (upd H l (.frz o (.tup ys)))) ∨ (SqT K H p ys ∧ Q (.ref p) H))) (g1 gTup1) := op_g1 (fun M H d x Q ex v w => by
    unfold gTup1 at w
    split at w
    · obtain ⟨a, vs, rfl, r, f⟩ := v
      exact ⟨a, vs, rfl, .inl ⟨.inl (.inl r), fun l o hl ho => w.2 l vs o hl ho f⟩⟩
    · rw [vwt] at v
      obtain ⟨a, vs, rfl, r, f⟩ := v
      exact ⟨a, vs, rfl, .inr ⟨ex.t r, w.1 _ (by simp only [Fz]; exact ⟨a, vs, rfl, r, f⟩)⟩⟩
    · exact w.elim) fun d Q Q' h w => by
    unfold gTup1 at w ⊢
    split at w
    · exact h _ w
    · exact h _ w
    · exact w.elim
def gLst1 : D → (Out → Prop) → Prop
  | .list ds, Q => Q (.new (.list ds))
  | .tuple ds, Q => Q (.new (.list ds))
  | _, _ => False
theorem g_lst1 {K : PySem.W.Frag} : OpN K (fun xs H Q => ∃ p ys, xs = [.ref p] ∧ (SqL K H p ys ∨ SqT K H p ys) ∧ ∀ l, H l = none → Q (.ref l) (upd H l (.lst ys))) (g1 gLst1) := op_g1 (fun M H d x Q ex v w => by
    unfold gLst1 at w
    split at w
    · obtain ⟨a, vs, rfl, r, f⟩ := v
      exact ⟨a, vs, rfl, .inl (.inl (.inl r)), fun l hl => w l _ hl ⟨vs, upd_same, f⟩⟩
    · rw [vwt] at v
      obtain ⟨a, vs, rfl, r, f⟩ := v
      exact ⟨a, vs, rfl, .inr (ex.t r), fun l hl => w l _ hl ⟨vs, upd_same, f⟩⟩
    · exact w.elim) fun d Q Q' h w => by
    unfold gLst1 at w ⊢
    split at w
    · exact h _ w
    · exact h _ w
    · exact w.elim
/-! ### isinstance -/
def tyN : D → String
  | .none => "NoneType"
  | .bool _ => "bool"
  | .int _ => "int"
  | .str _ => "str"
  | .list _ => "list"
  | .tuple _ => "tuple"
  | .dict _ => "dict"
/-- is the type one of these (True and False are int, too) -/
def isTy (t : String) : String → Bool := fun n => n == t || (n == "int" && t == "bool")
theorem tyx {K : PySem.W.Frag} {M H : Hp} {d : D} {x : V} (ex : Ex M H) (v : Vw K M H d x) (hd : ∀ kds, d ≠ .dict kds) : TyX K H x (.type (tyN d)) := by
  cases d with
  | none => rw [vwn.mp v]; exact .base .non
  | bool b => rw [vwb.mp v]; exact .base (.bl _)
  | int b => rw [vwi.mp v]; exact .base (.int _)
  | str b => rw [vws.mp v]; exact .base (.str _)
  | list ds => obtain ⟨a, vs, rfl, r, _⟩ := v; exact .base (.lst r)
  | tuple ds =>
    rw [vwt] at v
    obtain ⟨a, vs, rfl, r, _⟩ := v
    rcases ex.t r with (r | ⟨o, r⟩) | ⟨o, its, n, k, c, _⟩
    · exact .base (.tup r)
    · exact .fTuple r
    · exact .kTuple k c
  | dict kds => exact absurd rfl (hd kds)
def goodTy (n : String) : Prop := ∀ t ∈ ["NoneType", "bool", "int", "str", "list", "tuple"], kitB t n = some (isTy t n)
theorem goodTys : goodTy "str" ∧ goodTy "int" ∧ goodTy "bool" ∧ goodTy "list" ∧ goodTy "tuple" := by unfold goodTy; decide +kernel
theorem tyN_mem {d : D} (hd : ∀ kds, d ≠ .dict kds) : tyN d ∈ ["NoneType", "bool", "int", "str", "list", "tuple"] := by
  cases d with
  | dict kds => exact absurd rfl (hd kds)
  | _ => simp [tyN]
def noDict : D → Bool
  | .dict _ => false
  | _ => true
theorem noDict_ne {d : D} (h : noDict d = true) : ∀ kds, d ≠ .dict kds := by rintro kds rfl; cases h
def wIsi (n : String) (f : DE) : DE := fun e Q => f e fun r e1 => ∃ d, look e1 r = some d ∧ noDict d = true ∧ Q (.fz (.bool (isTy (tyN d) n))) e1
theorem fe_isi {a b : Expr} {f : DE} {n : String} {p pos : Pos} (gn : goodTy n) (hg : Gl X "isinstance") (hm : X.mg "isinstance" = none) (ha : FE X a f) (hb : PE X b (tC (.ty n)))
    (hs : starEach (a :: [b]) X.env = (false, eval a X.env) :: starEach [b] X.env := by rfl) (hs2 : starEach (b :: []) X.env = (false, eval b X.env) :: starEach [] X.env := by rfl) (hp : (backTo pos (starEach [b] X.env)).any (·.1) = false := by rfl) :
    FE X (.Call (.Name "isinstance" p) [a, b] [] pos) (wIsi n f) := by
  refine ⟨pe_imp (pe_callB call_isi hg hm (by decide +kernel) (pa_cons ha.pe (pa_cons hb pa_nil hs2) hs) (he := hs) (hpl := hp)) ?_, fun e Q Q' h w => ha.mono _ _ _ (fun r e1 ⟨d, l, k, q⟩ => ⟨d, l, k, h _ _ q⟩) w⟩
  rintro σ H Q ⟨P, B, ios, e, T, r, w⟩
  refine ⟨P, B, ios, e, T, r, ha.mono _ _ _ (fun r e1 w1 x H1 h1 => ?_) w⟩
  obtain ⟨d, l, k, q⟩ := w1
  obtain ⟨M, h1⟩ := h1
  have hd := noDict_ne k
  refine ⟨x, .ty n, .type (tyN d), .type n, isTy (tyN d) n, rfl, .ty n, tyx h1.mh (h1.view (by simp) l) hd, kit_ty (gn _ (tyN_mem hd)), ?_⟩
  exact q _ H1 ⟨M, h1.popN.push_fz (fzb.mpr rfl)⟩
/-- isinstance(x, (A, B)) -/
def wIsi2 (n m : String) (f : DE) : DE := fun e Q => f e fun r e1 => ∃ d, look e1 r = some d ∧ noDict d = true ∧ Q (.fz (.bool (isTy (tyN d) n || isTy (tyN d) m))) e1
theorem fe_isi2 {a b c : Expr} {f : DE} {n m : String} {p pos tpos : Pos} {kk} (gn : goodTy n) (gm : goodTy m) (hg : Gl X "isinstance") (hm : X.mg "isinstance" = none) (ha : FE X a f) (hb : PE X b (tC (.ty n))) (hc : PE X c (tC (.ty m)))
    (hs : starEach (a :: [.Tuple [b, c] kk tpos]) X.env = (false, eval a X.env) :: starEach [.Tuple [b, c] kk tpos] X.env := by rfl) (hs2 : starEach ((.Tuple [b, c] kk tpos) :: []) X.env = (false, eval (.Tuple [b, c] kk tpos) X.env) :: starEach [] X.env := by rfl)
    (hs3 : starEach (b :: [c]) X.env = (false, eval b X.env) :: starEach [c] X.env := by rfl) (hs4 : starEach (c :: []) X.env = (false, eval c X.env) :: starEach [] X.env := by rfl) (hp : (backTo pos (starEach [.Tuple [b, c] kk tpos] X.env)).any (·.1) = false := by rfl) :
    FE X (.Call (.Name "isinstance" p) [a, .Tuple [b, c] kk tpos] [] pos) (wIsi2 n m f) := by
  refine ⟨pe_imp (pe_callB call_isiT hg hm (by decide +kernel) (pa_cons ha.pe (pa_cons (pe_tup (pa_cons hb (pa_cons hc pa_nil hs4) hs3)) pa_nil hs2) hs) (he := hs) (hpl := hp)) ?_, fun e Q Q' h w => ha.mono _ _ _ (fun r e1 ⟨d, l, k, q⟩ => ⟨d, l, k, h _ _ q⟩) w⟩
  rintro σ H Q ⟨P, B, ios, e, T, r, w⟩
  refine ⟨P, B, ios, e, T, r, ha.mono _ _ _ (fun r e1 w1 x H1 h1 => ?_) w⟩
  obtain ⟨d, l, k, q⟩ := w1
  obtain ⟨M, h1⟩ := h1
  have hd := noDict_ne k
  refine ⟨by show 2 ≤ sizeLine; decide, fun p hp => ?_⟩
  have h2 := h1.alloc (o := .tup [V.ty n, V.ty m]) hp
  refine ⟨x, p, [.ty n, .ty m], .type (tyN d), [.type n, .type m], isTy (tyN d) n || isTy (tyN d) m, rfl, upd_same, .cons (.ty n) (.cons (.ty m) .nil), tyx h2.mh (h2.view (by simp) l) hd, ?_, ?_⟩
  · refine kitAny_cons (kit_ty (gn _ (tyN_mem hd))) (fun z => ?_) (fun z => by rw [z]; rfl)
    rw [z, Bool.false_or]
    refine kitAny_cons (kit_ty (gm _ (tyN_mem hd))) (fun z => by rw [z]; rfl) (fun z => z)
  · exact q _ _ ⟨M, h2.popN.push_fz (fzb.mpr rfl)⟩
end
end PL
set_option Elab.async false
set_option linter.all false
set_option autoImplicit false
set_option maxRecDepth 100000
set_option maxHeartbeats 4000000
/-! PLj: methods, stores, what loops walk, the script, repr. -/
namespace PL
open PySem PySem.Spec PyProof.Rows L2

section
variable {X : Cx}
/-! ### globals -/
theorem fe_glob {x : Str} {v : V} {u : Value} {d : D} {pos : Pos} (hg : Gl X x) (hm : X.mg x = some u) (r : RelV v u) (hd : ∀ M, Fz X.K M d v) (hdb : (x == ("__debug__" : Str)) = false := by decide) : FE X (.Name x pos) (wC d) := fe_c (pe_glob hg hm r hdb) hd
/-! ### list methods that change -/
theorem fzl1 {K : PySem.W.Frag} {M : Hp} {d : D} {vs : List V} (h : FzL K M [d] vs) : ∃ v, vs = [v] ∧ Fz K M d v := by
  simp only [FzL] at h
  obtain ⟨v, r, rfl, h, rfl⟩ := h
  exact ⟨v, rfl, h⟩
def isL : D → Prop
  | .list _ => True
  | _ => False
theorem ownL {K : PySem.W.Frag} {M H : Hp} {d : D} {a : Addr} (h : OwnAt K M H d a) (l : isL d) : ∃ ds vs, d = .list ds ∧ H a = some (.lst vs) ∧ FzL K M ds vs := by
  cases d with
  | list ds => obtain ⟨vs, q, f⟩ := h; exact ⟨ds, vs, rfl, q, f⟩
  | _ => exact l.elim
theorem tyL {K : PySem.W.Frag} {M H : Hp} {d : D} {a : Addr} (h : OwnAt K M H d a) (l : isL d) : tyV K "list" (.ref a) H := by
  obtain ⟨ds, vs, _, q, _⟩ := ownL h l
  exact .inl ⟨rfl, vs, .inl (.inl q)⟩
def gAppend : D → List D → (D → Out → Prop) → Prop
  | .list ds, [d], Q => ds.length < 100000 ∧ Q (.list (ds ++ [d])) (.val .none)
  | _, _, _ => False
theorem g_append {K : PySem.W.Frag} : OpMut K "list" rAppend isL gAppend where
  ty := fun M H d a o l => tyL o l
  run := fun M H d a ds vs Q ex hm o f w => by
    unfold gAppend at w
    split at w
    · obtain ⟨us, q, fl⟩ := o
      obtain ⟨v, rfl, fv⟩ := fzl1 f
      exact ⟨a, us, v, rfl, rfl, q, by rw [← fl.length]; exact ltline_of w.1, w.2 _ ⟨_, upd_same, fl.append (.cons fv .nil)⟩ _ (fzn.mpr rfl)⟩
    · exact w.elim
  mono := fun d ds Q Q' h w => by
    unfold gAppend at w ⊢
    split at w
    · exact ⟨w.1, h _ _ w.2⟩
    · exact w.elim
/-! ### xs[i] = v -/
def gSetL : D → D → D → (D → Prop) → Prop
  | .list ds, .int i, d, Q => ∃ j, ixN ds.length i = some j ∧ Q (.list (ds.set j d))
  | _, _, _, _ => False
theorem fzl_set {K : PySem.W.Frag} {M : Hp} {d : D} {v : V} : ∀ {ds : List D} {vs : List V} {j : Nat}, FzL K M ds vs → Fz K M d v → FzL K M (ds.set j d) (vs.set j v)
  | [], vs, j, h, _ => by simp only [FzL] at h; subst h; exact .nil
  | e :: ds, vs, j, h, f => by
    simp only [FzL] at h
    obtain ⟨w, r, rfl, h1, h2⟩ := h
    cases j with
    | zero => exact .cons f h2
    | succ j => exact .cons h1 (fzl_set h2 f)
theorem g_setL {K : PySem.W.Frag} : OpSet K rSetL gSetL where
  run := fun M H d a dk dv k v Q ex hm o fk fv w => by
    unfold gSetL at w
    split at w
    · obtain ⟨j, hj, w⟩ := w
      obtain ⟨us, q, fl⟩ := o
      exact ⟨a, us, _, j, rfl, fzi.mp fk, q, by rw [← fl.length]; exact hj, w _ ⟨_, upd_same, fzl_set fl fv⟩⟩
    · exact w.elim
  mono := fun d dk dv Q Q' h w => by
    unfold gSetL at w ⊢
    split at w
    · obtain ⟨j, hj, w⟩ := w; exact ⟨j, hj, h _ w⟩
    · exact w.elim
/-! ### text methods -/
def isS : D → Prop
  | .str _ => True
  | _ => False
theorem tyS {K : PySem.W.Frag} {M H : Hp} {d : D} {x : V} (h : Vw K M H d x) (l : isS d) : tyV K "str" x H := by
  cases d with
  | str z => rw [vws] at h; subst h; rfl
  | _ => exact l.elim
def gCount : D → List D → (Out → Prop) → Prop
  | .str a, [.str b], Q => Q (.val (.int (Txt.count a b)))
  | _, _, _ => False
theorem g_count {K : PySem.W.Frag} : OpM K "str" (fun x xs H Q => ∃ a b, x = .str a ∧ xs = [.str b] ∧ Q (.int (Txt.count a b)) H) isS gCount where
  ty := fun M H d x ex v l => tyS v l
  run := fun M H d ds x vs Q ex v f w => by
    unfold gCount at w
    split at w
    · rw [vws] at v
      obtain ⟨y, rfl, fy⟩ := vwl1 f
      rw [vws] at fy
      exact ⟨_, _, v, by rw [fy], w _ (fzi.mpr rfl)⟩
    · exact w.elim
  mono := fun d ds Q Q' h w => by
    unfold gCount at w ⊢
    split at w
    · exact h _ w
    · exact w.elim
def gUpper : D → List D → (Out → Prop) → Prop
  | .str a, [], Q => a.length ≤ 100000 ∧ Q (.val (.str (Txt.upper a)))
  | _, _, _ => False
theorem g_upper {K : PySem.W.Frag} : OpM K "str" (fun x xs H Q => ∃ a, x = .str a ∧ xs = [] ∧ a.length ≤ 5592405 ∧ Q (.str (Txt.upper a)) H) isS gUpper where
  ty := fun M H d x ex v l => tyS v l
  run := fun M H d ds x vs Q ex v f w => by
    unfold gUpper at w
    split at w
    · rw [vws] at v
      simp only [VwL] at f
      exact ⟨_, v, f, by omega, w.2 _ (fzs.mpr rfl)⟩
    · exact w.elim
  mono := fun d ds Q Q' h w => by
    unfold gUpper at w ⊢
    split at w
    · exact ⟨w.1, h _ w.2⟩
    · exact w.elim
def seqOf : D → Option (List D)
  | .list ds => some ds
  | .tuple ds => some ds
  | _ => none
def gJoin : D → List D → (Out → Prop) → Prop
  | .str a, [d], Q => ∃ ds ys, seqOf d = some ds ∧ strs? ds = some ys ∧ (ys.map (·.length)).sum + ys.length * a.length ≤ 100000 ∧ Q (.val (.str (Txt.join a ys)))
  | _, _, _ => False
theorem g_join {K : PySem.W.Frag} : OpM K "str" (fun x xs H Q => ∃ a p, ∃ ys : List Str, x = .str a ∧ xs = [.ref p] ∧ (SqL K H p (ys.map V.str) ∨ SqT K H p (ys.map V.str)) ∧ (ys.map (·.length)).sum + ys.length * a.length ≤ 16777216 ∧ Q (.str (Txt.join a ys)) H) isS gJoin where
  ty := fun M H d x ex v l => tyS v l
  run := fun M H d ds x vs Q ex v f w => by
    unfold gJoin at w
    split at w
    · rw [vws] at v
      obtain ⟨y, rfl, fy⟩ := vwl1 f
      obtain ⟨ds, ys, h1, h2, h3, w⟩ := w
      rename_i d0
      cases d0 with
      | list es =>
        cases h1
        obtain ⟨p, us, rfl, q, fl⟩ := fy
        have := strs_fz h2 fl; subst this
        exact ⟨_, p, ys, v, rfl, .inl (.inl (.inl q)), by omega, w _ (fzs.mpr rfl)⟩
      | tuple es =>
        cases h1
        rw [vwt] at fy
        obtain ⟨p, us, rfl, q, fl⟩ := fy
        have := strs_fz h2 fl; subst this
        exact ⟨_, p, ys, v, rfl, .inr (ex.t q), by omega, w _ (fzs.mpr rfl)⟩
      | _ => cases h1
    · exact w.elim
  mono := fun d ds Q Q' h w => by
    unfold gJoin at w ⊢
    split at w
    · obtain ⟨ds, ys, h1, h2, h3, w⟩ := w; exact ⟨ds, ys, h1, h2, h3, h _ w⟩
    · exact w.elim
/-! ### what loops walk -/
/-- a list, a tuple, a text: as it stands; what a slot owns is shared from here on -/
def itD : D → Option (List D)
  | .list ds => some ds
  | .tuple ds => some ds
  | .str z => some (z.cps.toList.map fun c => .str ⟨#[c]⟩)
  | _ => none
def iAny (K : PySem.W.Frag) (te : TE) : TI := fun σ H R => te σ H fun x H1 => (∃ a, x = .ref a ∧ (∃ xs, SqL K H1 a xs) ∧ R (Itl K a) H1) ∨ (∃ a, x = .ref a ∧ (∃ xs, SqT K H1 a xs) ∧ R (Itt K a) H1) ∨ ∃ z, x = .str z ∧ R (Its z) H1
theorem pi_any {tg l : Expr} {tl : TE} (hl : PE X l tl) : PI X tg l (iAny X.K tl) := by
  refine ⟨fun pins s σ H R I h => ?_⟩
  refine thn (hl.run pins s σ H _ I h) fun v s1 ⟨x, H1, I1, r1, q1⟩ => ?_
  rcases q1 with ⟨a, e, ⟨xs, hq⟩, q⟩ | ⟨a, e, ⟨xs, hq⟩, q⟩ | ⟨z, e, q⟩
  · subst e
    cases r1
    obtain ⟨its, rv, p, hz⟩ := I1.list hq
    exact wpAny_pyIter_list p.isList (pi_one (tk := s1.toks) I1 _ (turn_list a _) ⟨_, Heap.get?_push_size _ rfl, rfl, rfl⟩ q)
  · subst e
    cases r1
    obtain ⟨its, rv, p, hz⟩ := I1.tuple hq
    exact wpAny_pyIter_tuple (show s1.heap.IsTuple a its.toArray from p) (pi_one (tk := s1.toks) I1 _ (turn_tuple a _) ⟨_, Heap.get?_push_size _ rfl, rfl, rfl⟩ q)
  · subst e
    obtain ⟨t, rfl⟩ := r1
    cases ha : z.cps.all (· < 128)
    · exact wpAny_pyIter_wide ha (pi_one (tk := s1.toks) I1 _ (turn_str _ z t "str_iterator" (.inr rfl)) ⟨_, Heap.get?_push_size _ rfl, rfl, rfl⟩ q)
    · exact wpAny_pyIter_ascii ha (pi_one (tk := s1.toks) I1 _ (turn_str _ z t "str_ascii_iterator" (.inl rfl)) ⟨_, Heap.get?_push_size _ rfl, rfl, rfl⟩ q)
def wIt (f : DE) : DI := fun e Q => f e fun r e1 => ∃ d e2 ds, frz e1 r = some (d, e2) ∧ itD d = some ds ∧ Q (ds.map Res.fz) e2
theorem fi_any {tg a : Expr} {fa : DE} (ha : FE X a fa) : FI X tg a (wIt fa) := by
  refine ⟨pi_imp (pi_any ha.pe) ?_, fun e Q Q' h w => ha.mono _ _ _ (fun r e1 ⟨d, e2, ds, h1, h2, w1⟩ => ⟨d, e2, ds, h1, h2, h _ _ w1⟩) w⟩
  rintro σ H R ⟨P, B, ios, e, T, r, w⟩
  refine ⟨P, B, ios, e, T, r, ha.mono _ _ _ (fun rr e1 w1 x H1 h1 => ?_) w⟩
  obtain ⟨d, e2, ds, hf, hi, w1⟩ := w1
  obtain ⟨M, h1⟩ := h1
  obtain ⟨M2, x2, h2, f⟩ := h1.freezeAt (T2 := []) hf
  have hfz : AllFz [(Res.fz d, x)] := fun t ht => by
    rw [List.mem_singleton] at ht
    rw [ht]; exact ⟨d, rfl⟩
  have hr : Rep X.K P B ios e2 σ (T ++ [(.fz d, x)]) H1 := ⟨M2, by simpa using h2⟩
  cases d with
  | list es =>
    obtain rfl : es = ds := by injection hi
    simp only [Fz] at f
    obtain ⟨a, vs, rfl, q, fl⟩ := f
    refine .inl ⟨a, rfl, ⟨vs, .inl (.inl (h2.mh _ _ q))⟩, w1 _ _ _ hfz hr fun T1 hT => ⟨fun i ios' σ' e' T2 H' d' ⟨M3, r3⟩ _ hi => ?_, fun i ios' σ' e' T2 H' ⟨M3, r3⟩ _ hi => ?_⟩⟩
    · have f3 := r3.tfz (d := .list es) (v := .ref a) (List.mem_append_left _ (hT _ (by simp)))
      simp only [Fz] at f3
      obtain ⟨b, us, hb, q3, fl3⟩ := f3
      cases hb
      rw [List.getElem?_map, Option.map_eq_some_iff] at hi
      obtain ⟨d0, hi, rfl⟩ := hi
      obtain ⟨v, hv, fv⟩ := fl3.get hi
      have sq : SqL X.K H' a us := .inl (.inl (r3.mh _ _ q3))
      refine ⟨⟨us, v, sq, hv⟩, fun y H2 hy => ?_⟩
      obtain ⟨rfl, hy⟩ := hy
      have := hy us sq
      rw [hv] at this; cases this
      exact ⟨M3, r3.push_fz fv⟩
    · have f3 := r3.tfz (d := .list es) (v := .ref a) (List.mem_append_left _ (hT _ (by simp)))
      simp only [Fz] at f3
      obtain ⟨b, us, hb, q3, fl3⟩ := f3
      cases hb
      exact ⟨us, .inl (.inl (r3.mh _ _ q3)), by rw [← fl3.length]; simpa using hi⟩
  | tuple es =>
    obtain rfl : es = ds := by injection hi
    simp only [Fz] at f
    obtain ⟨a, vs, rfl, q, fl⟩ := f
    refine .inr (.inl ⟨a, rfl, ⟨vs, h2.mh.t q⟩, w1 _ _ _ hfz hr fun T1 hT => ⟨fun i ios' σ' e' T2 H' d' ⟨M3, r3⟩ _ hi => ?_, fun i ios' σ' e' T2 H' ⟨M3, r3⟩ _ hi => ?_⟩⟩)
    · have f3 := r3.tfz (d := .tuple es) (v := .ref a) (List.mem_append_left _ (hT _ (by simp)))
      simp only [Fz] at f3
      obtain ⟨b, us, hb, q3, fl3⟩ := f3
      cases hb
      rw [List.getElem?_map, Option.map_eq_some_iff] at hi
      obtain ⟨d0, hi, rfl⟩ := hi
      obtain ⟨v, hv, fv⟩ := fl3.get hi
      have sq : SqT X.K H' a us := r3.mh.t q3
      refine ⟨⟨us, v, sq, hv⟩, fun y H2 hy => ?_⟩
      obtain ⟨rfl, hy⟩ := hy
      have := hy us sq
      rw [hv] at this; cases this
      exact ⟨M3, r3.push_fz fv⟩
    · have f3 := r3.tfz (d := .tuple es) (v := .ref a) (List.mem_append_left _ (hT _ (by simp)))
      simp only [Fz] at f3
      obtain ⟨b, us, hb, q3, fl3⟩ := f3
      cases hb
      exact ⟨us, r3.mh.t q3, by rw [← fl3.length]; simpa using hi⟩
  | str z =>
    cases hi
    rw [fzs] at f
    refine .inr (.inr ⟨z, f, w1 _ _ _ hfz hr fun T1 hT => ⟨fun i ios' σ' e' T2 H' d' ⟨M3, r3⟩ _ hi => ?_, fun i ios' σ' e' T2 H' _ _ hi => ?_⟩⟩)
    · rw [List.map_map, List.getElem?_map, Option.map_eq_some_iff] at hi
      obtain ⟨c, hc, rfl⟩ := hi
      have hlt := (List.getElem?_eq_some_iff.mp hc).1
      refine ⟨show i < z.cps.size by simpa using hlt, fun y H2 hy => ?_⟩
      obtain ⟨rfl, c', hc', rfl⟩ := hy
      have : z.cps[i]? = some c := by simpa using hc
      rw [this] at hc'; cases hc'
      exact ⟨M3, r3.push_fz (fzs.mpr rfl)⟩
    · show z.cps.size ≤ i
      simpa using hi
  | none => cases hi
  | bool b => cases hi
  | int b => cases hi
  | dict b => cases hi
/-- a list that stays a slot's own while a comprehension walks it -/
def wItB (f : DE) : DIc := fun e Q => f e fun r e1 => ∃ i k ds, r = .loc i ∧ ownAt? e1 i = some (k, .list ds) ∧ Q (ds.map Res.fz) (fun e2 => ∃ k, ownAt? e2 i = some (k, .list ds)) [i] e1
theorem fic_own {tg a : Expr} {fa : DE} (ha : FE X a fa) : FIc X tg a (wItB fa) := by
  refine ⟨pi_imp (pi_any ha.pe) ?_, fun e Q Q' h w => ha.mono _ _ _ (fun r e1 ⟨i, k, ds, h1, h2, w1⟩ => ⟨i, k, ds, h1, h2, h _ _ _ _ w1⟩) w⟩
  rintro σ H R ⟨P, B, ios, e, T, r, w⟩
  refine ⟨P, B, ios, e, T, r, ha.mono _ _ _ (fun rr e1 w1 x H1 h1 => ?_) w⟩
  obtain ⟨i, k, ds, rfl, ow, w1⟩ := w1
  have h1' := h1
  obtain ⟨M, h1⟩ := h1
  obtain ⟨q, hk⟩ := ownAt_spec ow
  have hsl := h1.loc i x (by simp)
  obtain ⟨p, s, own, hm, hp⟩ := h1.owS q hk
  rw [hsl] at s; cases s
  obtain ⟨vs, hv, fl⟩ := own
  have held : HeldOk [i] [(Res.loc i, V.ref p)] := fun t ht => by
    rw [List.mem_singleton] at ht
    rw [ht]; exact .inr ⟨i, by simp, rfl⟩
  have look : ∀ {ios' : List (Nat × V)} {σ' : L2.St} {e' : DEnv} {T1 T2 : Tmp} {H' : Hp} {M3 : Hp}, RepM X.K P B M3 ios' e' σ' (T1 ++ T2) H' → (Res.loc i, V.ref p) ∈ T1 → (∃ k, ownAt? e' i = some (k, .list ds)) → ∃ us, H' p = some (.lst us) ∧ FzL X.K M3 ds us := fun r3 hT ⟨k', o'⟩ => by
    obtain ⟨q', hk'⟩ := ownAt_spec o'
    have z := r3.loc i (.ref p) (List.mem_append_left _ hT)
    obtain ⟨p', s', own', _⟩ := r3.owS q' hk'
    rw [z] at s'; cases s'
    exact own'
  refine .inl ⟨p, rfl, ⟨vs, .inl (.inl hv)⟩, w1 _ _ _ held h1' fun T1 hT => ⟨fun j ios' σ' e' T2 H' d' ⟨M3, r3⟩ hst hi => ?_, fun j ios' σ' e' T2 H' ⟨M3, r3⟩ hst hi => ?_⟩⟩
  · obtain ⟨us, hu, fu⟩ := look r3 (hT _ (by simp)) hst
    rw [List.getElem?_map, Option.map_eq_some_iff] at hi
    obtain ⟨d0, hi, rfl⟩ := hi
    obtain ⟨v, hv', fv⟩ := fu.get hi
    have sq : SqL X.K H' p us := .inl (.inl hu)
    refine ⟨⟨us, v, sq, hv'⟩, fun y H2 hy => ?_⟩
    obtain ⟨rfl, hy⟩ := hy
    have := hy us sq
    rw [hv'] at this; cases this
    exact ⟨M3, r3.push_fz fv⟩
  · obtain ⟨us, hu, fu⟩ := look r3 (hT _ (by simp)) hst
    exact ⟨us, .inl (.inl hu), by rw [← fu.length]; simpa using hi⟩
/-! ranges -/
def rngD (lo : Int) (n : Nat) : List Res := (List.range n).map fun i => .fz (.int (lo + (i : Nat)))
theorem walk_rng {K : PySem.W.Frag} {P B : Hp} {ios : List (Nat × V)} {T1 : Tmp} {lo : Int} {n : Nat} : WalkOk K P B ios T1 (rngD lo n) (fun _ => True) (Itr lo n) := by
  refine ⟨fun i ios' σ' e' T2 H' d' ⟨M3, r3⟩ _ hi => ?_, fun i ios' σ' e' T2 H' _ _ hi => ?_⟩
  · unfold rngD at hi
    rw [List.getElem?_map, Option.map_eq_some_iff] at hi
    obtain ⟨c, hc, rfl⟩ := hi
    obtain ⟨hlt, hc⟩ := List.getElem?_eq_some_iff.mp hc
    have hlt' : i < n := by simpa using hlt
    have : c = i := by simpa using hc.symm
    subst this
    refine ⟨hlt', fun y H2 hy => ?_⟩
    obtain ⟨rfl, rfl⟩ := hy
    exact ⟨M3, r3.push_fz (fzi.mpr rfl)⟩
  · show n ≤ i
    simpa [rngD] using hi
def wRng1 (fs : DA) : DI := fun e Q => fs e fun rs e1 => ∃ j : Int, lookAll e1 rs = some [.int j] ∧ (-(2 ^ 62) ≤ j ∧ j < 2 ^ 62) ∧ Q (rngD 0 j.toNat) e1
def wRng2 (fs : DA) : DI := fun e Q => fs e fun rs e1 => ∃ i j : Int, lookAll e1 rs = some [.int i, .int j] ∧ (-(2 ^ 62) ≤ i ∧ i < 2 ^ 62 ∧ -(2 ^ 62) ≤ j ∧ j < 2 ^ 62) ∧ Q (rngD i (j - i).toNat) e1
theorem fi_range1 {tg a : Expr} {fs : DA} {p pos : Pos} (hg : Gl X "range") (hm : X.mg "range" = none) (ha : FA X [a] fs) (hs : starEach [a] X.env = [(false, eval a X.env)] := by rfl) : FI X tg (.Call (.Name "range" p) [a] [] pos) (wRng1 fs) := by
  refine ⟨pi_imp (pi_range1 hg hm ha.pa hs) ?_, fun e Q Q' h w => ha.mono _ _ _ (fun r e1 ⟨j, h1, h2, w1⟩ => ⟨j, h1, h2, h _ _ w1⟩) w⟩
  rintro σ H R ⟨P, B, ios, e, T, r, w⟩
  refine ⟨P, B, ios, e, T, r, ha.mono _ _ _ (fun rs e1 w1 vs H1 hl h1 => ?_) w⟩
  obtain ⟨j, l, b, w1⟩ := w1
  obtain ⟨M, h1⟩ := h1
  obtain ⟨v, rfl, v1⟩ := vwl1 (h1.views hl l)
  rw [vwi] at v1
  exact ⟨j, by rw [v1], b.1, b.2, w1 _ _ [] (fun t ht => by simp at ht) (by rw [List.append_nil]; exact ⟨M, h1.popN⟩) fun T1 _ => walk_rng⟩
theorem fi_range2 {tg a b : Expr} {fs : DA} {p pos : Pos} (hg : Gl X "range") (hm : X.mg "range" = none) (ha : FA X [a, b] fs) (hs : starEach [a, b] X.env = [(false, eval a X.env), (false, eval b X.env)] := by rfl) (hs2 : starEach [b] X.env = [(false, eval b X.env)] := by rfl) :
    FI X tg (.Call (.Name "range" p) [a, b] [] pos) (wRng2 fs) := by
  refine ⟨pi_imp (pi_range2 hg hm ha.pa hs hs2) ?_, fun e Q Q' h w => ha.mono _ _ _ (fun r e1 ⟨i, j, h1, h2, w1⟩ => ⟨i, j, h1, h2, h _ _ w1⟩) w⟩
  rintro σ H R ⟨P, B, ios, e, T, r, w⟩
  refine ⟨P, B, ios, e, T, r, ha.mono _ _ _ (fun rs e1 w1 vs H1 hl h1 => ?_) w⟩
  obtain ⟨i, j, l, b, w1⟩ := w1
  obtain ⟨M, h1⟩ := h1
  obtain ⟨v, v', rfl, v1, v2⟩ := vwl2 (h1.views hl l)
  rw [vwi] at v1 v2
  exact ⟨i, j, by rw [v1, v2], b, w1 _ _ [] (fun t ht => by simp at ht) (by rw [List.append_nil]; exact ⟨M, h1.popN⟩) fun T1 _ => walk_rng⟩
/-! ### the script: its length, its numbers -/
def scAt (e : DEnv) (i : Nat) : Option (List D) := match e[i]? with
  | some (some (.sc, .list ds)) => some ds
  | _ => none
def wLenSc (i : Nat) : DE := fun e Q => ∃ ds, scAt e i = some ds ∧ Q (.fz (.int (ds.length : Int))) e
theorem sc_of {e : DEnv} {i : Nat} {ds : List D} (h : scAt e i = some ds) : e[i]? = some (some (.sc, .list ds)) := by
  unfold scAt at h
  split at h
  · rename_i q; cases h; exact q
  · cases h
theorem fe_lenSc {i : Nat} {a : Expr} {p pos : Pos} (ha : PE X a (tVar i)) (hgl : Gl X "len") (hm : X.mg "len" = none)
    (hs : starEach [a] X.env = (false, eval a X.env) :: starEach [] X.env := by rfl) (hp : (backTo pos (starEach [] X.env)).any (·.1) = false := by rfl) : FE X (.Call (.Name "len" p) [a] [] pos) (wLenSc i) := by
  refine ⟨pe_imp (pe_callB call_len hgl hm PySem.boot_len (pa_cons ha pa_nil hs) (he := hs) (hpl := hp)) ?_, fun e Q Q' h w => ?_⟩
  · rintro σ H Q ⟨P, B, ios, e, T, ⟨M, r⟩, ds, hd, w⟩
    obtain ⟨p, ns, s, q, rfl⟩ : ∃ (p : Addr) (ns : List Int), σ[i]? = some (some (V.ref p)) ∧ SqL X.K M p (ns.map V.int) ∧ ds = ns.map PyData.int := by
      obtain ⟨p, ns, s, q, e⟩ := r.scS (sc_of hd)
      exact ⟨p, ns, s, q, by injection e⟩
    refine ⟨_, s, _, (ns.map V.int).length, rfl, .inl ⟨_, r.mh.l q, rfl⟩, ?_⟩
    have := w (.int ((ns.map V.int).length : Int)) H ⟨M, r.push_fz (fzi.mpr (by simp))⟩
    exact this
  · obtain ⟨ds, hd, w⟩ := w
    exact ⟨ds, hd, h _ _ w⟩
def wIxSc (i : Nat) (f : DE) : DE := fun e Q => (∃ ds, scAt e i = some ds) ∧ f e fun r e1 => ∃ ds k n, scAt e1 i = some ds ∧ look e1 r = some (.int k) ∧ atI ds k = some (.int n) ∧ Q (.fz (.int n)) e1
theorem fe_ixSc {i : Nat} {a b : Expr} {fb : DE} {pos : Pos} (ha : PE X a (tVar i)) (hb : FE X b fb) (hs : PlainIx b) : FE X (.Subscript a b pos) (wIxSc i fb) := by
  refine ⟨pe_imp (pe_ix ix_seq ha hb.pe hs) ?_, fun e Q Q' h w => ⟨w.1, hb.mono _ _ _ (fun r e1 ⟨ds, k, n, h1, h2, h3, w1⟩ => ⟨ds, k, n, h1, h2, h3, h _ _ w1⟩) w.2⟩⟩
  rintro σ H Q ⟨P, B, ios, e, T, ⟨M, r⟩, ⟨ds, hd⟩, w⟩
  obtain ⟨p, ns, s, _⟩ := r.scS (sc_of hd)
  refine ⟨_, s, P, B, ios, e, T ++ [(.loc i, .ref p)], ⟨M, r.push_loc s⟩, hb.mono _ _ _ (fun rr e1 w1 y H1 h1 => ?_) w⟩
  obtain ⟨ds, k, n, hd, hk, hn, w1⟩ := w1
  obtain ⟨M1, h1⟩ := h1
  have hy : y = .int k := by
    have := h1.view (x := rr) (v := y) (by simp) hk
    rwa [vwi] at this
  obtain ⟨p', ns, s', q, e'⟩ := h1.scS (sc_of hd)
  have e' : ds = ns.map PyData.int := by injection e'
  have hs' := h1.loc i (.ref p) (by simp)
  rw [hs'] at s'; cases s'
  subst e'
  have hv : atI (ns.map V.int) k = some (.int n) := by
    unfold atI at hn ⊢
    rw [List.length_map] at hn ⊢
    cases z : ixN ns.length k with
    | none => rw [z] at hn; cases hn
    | some j =>
      rw [z] at hn
      have hn : (ns.map PyData.int)[j]? = some (.int n) := hn
      show (ns.map V.int)[j]? = some (.int n)
      rw [List.getElem?_map] at hn ⊢
      cases z2 : ns[j]? with
      | none => rw [z2] at hn; cases hn
      | some m => rw [z2] at hn; cases hn; rfl
  refine .inl ⟨p, ns.map V.int, k, .int n, rfl, hy, h1.mh.l q, hv, w1 _ _ ⟨M1, ?_⟩⟩
  exact RepM.push_fz (RepM.popN (T2 := [(.loc i, .ref p), (rr, y)]) (by simpa using h1)) (fzi.mpr rfl)
/-! ### repr -/
def gRepr (d : D) (Q : Out → Prop) : Prop := (d.canLay0 = true ∧ d.showable = true ∧ d.depth ≤ 64 ∧ d.shown.length ≤ sizeLine) ∧ Q (.val (.str d.shown))
abbrev rRepr (K : PySem.W.Frag) : List V → Hp → VK → Prop := fun xs H Q => ∃ x d, xs = [x] ∧ Dp K H x d ∧ d.canLay0 = true ∧ d.showable = true ∧ d.depth ≤ 64 ∧ d.shown.length ≤ sizeLine ∧ Q (.str d.shown) H
theorem call_repr (hG : X.A.guards = some []) (hu : X.A.units + 65 < cLine) : CallR X (.builtin "repr") (rRepr X.K) := by
  intro pins s σ H xs us Q I r h
  obtain ⟨x, d, rfl, hd, hc, hs, hdp, hz, q⟩ := h
  obtain ⟨u, rfl, ru⟩ := r.one
  obtain ⟨as, rd⟩ := Dp.reads I d x u hd ru
  cases hd with
  | non => cases ru; exact PySem.P.repr_of_none ⟨.str _, H, I.tok _, ⟨_, rfl⟩, q⟩
  | bl b => cases ru; exact PySem.P.repr_of_bool ⟨.str _, H, I.tok _, ⟨_, rfl⟩, q⟩
  | int i =>
    obtain ⟨t, rfl⟩ := ru
    exact PySem.P.repr_of_int (by simpa [PyData.showable] using hs) ⟨.str _, H, I.tok _, ⟨_, rfl⟩, q⟩
  | str z =>
    obtain ⟨t, rfl⟩ := ru
    exact PySem.P.repr_of_str ⟨.str _, H, I.tok _, ⟨_, rfl⟩, q⟩ hz
  | lst hq ha =>
    cases ru
    exact repr_of_reads' rd hs (PyData.noDict_hsm (PyData.hasDict_of_canLay _ hc)) hG (by omega) (fun _ _ e => e) (fun h' u tk hk => ⟨.str _, H, I.kept hk, ⟨_, rfl⟩, q⟩) hz
  | tup hq ha =>
    cases ru
    exact repr_of_reads' rd hs (PyData.noDict_hsm (PyData.hasDict_of_canLay _ hc)) hG (by omega) (fun _ _ e => e) (fun h' u tk hk => ⟨.str _, H, I.kept hk, ⟨_, rfl⟩, q⟩) hz
theorem g_repr {K : PySem.W.Frag} : OpN K (rRepr K) (g1 gRepr) := op_g1 (fun M H d x Q ex v w => ⟨x, d, rfl, vw_dp ex w.1.1 v, w.1.1, w.1.2.1, w.1.2.2.1, w.1.2.2.2, w.2 _ (fzs.mpr rfl)⟩) fun d Q Q' h w => ⟨w.1, h _ w.2⟩
end
end PL
set_option Elab.async false
set_option linter.all false
set_option autoImplicit false
set_option maxRecDepth 100000
set_option maxHeartbeats 4000000
/-! PLk: a, b = c, d of plain locals; what a def's promise needs. -/
namespace PL
open PySem PySem.Spec PyProof.Rows L2

theorem ends_le {ks : List Kd} {Q Q' : Res → List D → Prop} (h : ∀ r o, Q r o → Q' r o) : DLe (endsF ks Q) (endsF ks Q') := ⟨fun _ w => h _ _ w, fun _ _ w => ⟨w.1, h _ _ w.2⟩, fun _ w => w, fun _ w => w⟩
/-- the promise that a body's reading makes -/
def gOfB (ks : List Kd) (n : Nat) (b : DS) : DSp := fun ds Q => b (endsF ks Q) (argE ks ds ++ List.replicate n none)
/-- a result that is no slot's: a slot's own thing is shared from here on -/
def fixR (e : DEnv) : Res → Option (Res × DEnv)
  | .loc i => (frz e (.loc i)).map fun p => (.fz p.1, p.2)
  | .fz d => some (.fz d, e)
  | .ow d => some (.ow d, e)
  | .junk => none
theorem fixR_run {K : PySem.W.Frag} {P B M : Hp} {ios : List (Nat × V)} {e e' : DEnv} {σ : L2.St} {H : Hp} {T1 T2 : Tmp} {r s : Res} {v : V} (h : RepM K P B M ios e σ (T1 ++ (r, v) :: T2) H) (hf : fixR e r = some (s, e')) :
    (∃ M', RepM K P B M' ios e' σ (T1 ++ (s, v) :: T2) H) ∧ ∀ i, s ≠ .loc i := by
  cases r with
  | fz d => cases hf; exact ⟨⟨M, h⟩, fun i z => by cases z⟩
  | ow d => cases hf; exact ⟨⟨M, h⟩, fun i z => by cases z⟩
  | junk => cases hf
  | loc i =>
    unfold fixR at hf
    dsimp only at hf
    cases z : frz e (.loc i) with
    | none => rw [z] at hf; cases hf
    | some p =>
      rw [z] at hf
      cases hf
      obtain ⟨M', x, h', f⟩ := h.freezeAt (e' := p.2) (d := p.1) (by rw [z])
      exact ⟨⟨M', h'⟩, fun i z => by cases z⟩
theorem hu1 {k : Nat} {A : Around} (r : Room k A) : A.units + 1 < cLine := by have := r.un; omega
theorem hu130 {k : Nat} {A : Around} (r : Room k A) : A.units + 130 < cLine := by have := r.un; omega
theorem hu64 {k : Nat} {A : Around} (r : Room k A) : A.units + 64 < cLine := by have := r.un; omega
theorem hu65 {k : Nat} {A : Around} (r : Room k A) : A.units + 65 < cLine := by have := r.un; omega
def wPar (i j : Nat) (f : DA) : DS := fun D e => f e fun rs e1 => ∃ r1 r2 s1 e2 s2 e3, rs = [r1, r2] ∧ fixR e1 r1 = some (s1, e2) ∧ fixR e2 r2 = some (s2, e3) ∧ asgn j s2 e3 fun e4 => asgn i s1 e4 D.nx
theorem FSs.nox {X : Cx} {bd : List Stmt} {b : DS} (h : FSs X.nox bd b) : FSs X bd b := ⟨PSs.nox h.ps, h.mono⟩
section
variable {X : Cx}
theorem set_comm {α : Type} {l : List α} {i j : Nat} {x y : α} (h : i ≠ j) : (l.set j y).set i x = (l.set i x).set j y := List.set_comm _ _ (Ne.symm h)
theorem fs_par {i j : Nat} {x y : Str} {a b : Expr} {fa : DA} {px py pt : Pos} {kt k2 pt2} {pos : Pos} (hc : X.calm = true) (hN : X.N.Nodup) (hi : X.N[i]? = some x) (hj : X.N[j]? = some y) (hij : i ≠ j)
    (hx : X.env.scope.names.lookup x = some .local) (hy : X.env.scope.names.lookup y = some .local) (ha : FA X [a, b] fa)
    (hw : swappedStores [.Tuple [.Name x px, .Name y py] kt pt] (.Tuple [a, b] k2 pt2) X.env = pure (some [x, y]))
    (hs : swapsWithSole [.Tuple [.Name x px, .Name y py] kt pt] (.Tuple [a, b] k2 pt2) pos.line X.env = pure false := by rfl) :
    FS X (.Assign [.Tuple [.Name x px, .Name y py] kt pt] (.Tuple [a, b] k2 pt2) pos) (wPar i j fa) := by
  refine ⟨ps_imp (ps_par hc hN hi hj hij hx hy ha.pa hw hs) ?_, fun D D' e h w => ha.mono _ _ _ (fun rs e1 ⟨r1, r2, s1, e2, s2, e3, h1, h2, h3, w1⟩ => ⟨r1, r2, s1, e2, s2, e3, h1, h2, h3, asgn_mono _ _ _ _ _ (fun e4 w2 => asgn_mono _ _ _ _ _ h.nx w2) w1⟩) w⟩
  rintro D σ H ⟨P, B, ios, e, T, nl, r, w⟩
  refine ⟨P, B, ios, e, T, r, ha.mono _ _ _ (fun rs e1 w1 vs H1 hl h1 => ?_) w⟩
  obtain ⟨r1, r2, s1, e2, s2, e3, rfl, f1, f2, w1⟩ := w1
  match vs, hl, h1 with
  | [v1, v2], _, ⟨M, h1⟩ =>
    have h1' : RepM X.K P B M ios e1 σ (T ++ (r1, v1) :: [(r2, v2)]) H1 := h1
    obtain ⟨⟨M1, h2⟩, n1⟩ := fixR_run h1' f1
    have h2' : RepM X.K P B M1 ios e2 σ ((T ++ [(s1, v1)]) ++ (r2, v2) :: []) H1 := by simpa using h2
    obtain ⟨⟨M2, h3⟩, n2⟩ := fixR_run h2' f2
    have nl1 : NoLoc (T ++ [(s1, v1)]) := nl.app fun t ht i => by
      rw [List.mem_singleton] at ht
      rw [ht]; exact n1 i
    refine ⟨v1, v2, rfl, ?_⟩
    have g1 : gName j v2 σ H1 fun σ' H' => gName i v1 σ' H' fun σ'' H'' => D.nx σ'' H'' := asgn_run (K := X.K) ⟨P, B, ios, e3, T ++ [(s1, v1)], s2, nl1.j _, ⟨M2, h3⟩, asgn_mono _ _ _ _ _ (fun e4 w4 σ' H' _ r4 => ?_) w1⟩
    · have : D.nx ((σ.set j (some v2)).set i (some v1)) H1 := g1
      rwa [set_comm hij] at this
    · exact asgn_run (K := X.K) ⟨P, B, ios, e4, T, s1, nl.j _, r4, asgn_mono _ _ _ _ _ (fun e5 w5 σ'' H'' _ r5 => w5 σ'' H'' r5) w4⟩
end
end PL
set_option Elab.async false
set_option linter.all false
set_option autoImplicit false
set_option maxRecDepth 100000
set_option maxHeartbeats 4000000
/-! PLm: loops over pure data by an invariant; draws. -/
namespace PL
open PySem PySem.Spec PyProof.Rows L2
/-- a for loop by an invariant; K stands for what follows a turn -/
theorem forL_inv {g : DG} {b : DS} {D : DEnds} (I : Nat → DEnv → Prop) : ∀ (items : List Res) (e : DEnv), I 0 e →
    (∀ i d e (K : DEnv → Prop), items[i]? = some d → I i e → (∀ e2, I (i + 1) e2 → K e2) → g d e fun e1 => b { D with nx := K, ct := K, bk := D.nx } e1) →
    (∀ e, I items.length e → D.nx e) → forL g b D items e := by
  intro items
  induction items generalizing I with
  | nil => intro e h0 _ h; exact h e h0
  | cons d ds ih =>
    intro e h0 st h
    show g d e _
    refine st 0 d e _ rfl h0 fun e2 h2 => ?_
    exact ih (fun i e => I (i + 1) e) e2 h2 (fun i d e K hd hi hk => st (i + 1) d e K (by simpa using hd) hi hk) fun e he => h e (by simpa using he)
/-- a comprehension by an invariant -/
theorem lcL_inv {g : DG} {t : DT} {f : DE} {vs : List Nat} {sl : DEnv → Prop} {Q : List D → DEnv → Prop} (I : Nat → List D → DEnv → Prop) : ∀ (items : List Res) (acc : List D) (e : DEnv), I 0 acc e → (∀ i acc e, I i acc e → sl e) →
    (∀ i d acc e (K : List D → DEnv → Prop), items[i]? = some d → I i acc e → (∀ acc' e', I (i + 1) acc' e' → K acc' e') →
      g d e fun e1 => t e1 fun k e2 => if k = true then f e2 fun r e3 => ∃ y e4, frz e3 r = some (y, e4) ∧ K (acc ++ [y]) (wipeE e4 vs) else K acc (wipeE e2 vs)) →
    (∀ acc e, I items.length acc e → Q acc e) → lcL g t f vs sl Q items acc e := by
  intro items
  induction items generalizing I with
  | nil => intro acc e h0 hs _ h; exact ⟨hs 0 acc e h0, h acc e h0⟩
  | cons d ds ih =>
    intro acc e h0 hs st h
    refine ⟨hs 0 acc e h0, ?_⟩
    refine st 0 d acc e (fun acc e => lcL g t f vs sl Q ds acc e) rfl h0 fun acc2 e2 h2 => ?_
    exact ih (fun i acc e => I (i + 1) acc e) acc2 e2 h2 (fun i acc e h => hs (i + 1) acc e h) (fun i d acc e K hd hi hk => st (i + 1) d acc e K (by simpa using hd) hi hk) fun acc e he => h acc e (by simpa using he)
theorem rngD_len (lo : Int) (n : Nat) : (rngD lo n).length = n := by simp [rngD]
theorem rngD_get {lo : Int} {n i : Nat} {d : Res} (h : (rngD lo n)[i]? = some d) : i < n ∧ d = .fz (.int (lo + (i : Nat))) := by
  unfold rngD at h
  rw [List.getElem?_map, Option.map_eq_some_iff] at h
  obtain ⟨c, hc, rfl⟩ := h
  obtain ⟨h1, h2⟩ := List.getElem?_eq_some_iff.mp hc
  have : i < n := by simpa using h1
  refine ⟨this, ?_⟩
  have : c = i := by simpa using h2.symm
  rw [this]
theorem atI_lt {α : Type} {xs : List α} {i : Int} (h0 : 0 ≤ i) (h : i < xs.length) : atI xs i = some (xs[i.toNat]'(by omega)) := by
  unfold atI ixN
  rw [if_pos h0, if_pos h]
  show xs[i.toNat]? = _
  exact List.getElem?_eq_getElem _
theorem atI_last {α : Type} {xs : List α} {x : α} (h : xs.getLast? = some x) : atI xs (-1) = some x := by
  unfold atI ixN
  have hl : xs ≠ [] := by rintro rfl; cases h
  have hp : 0 < xs.length := List.length_pos_iff.mpr hl
  rw [if_neg (by omega), if_pos (by omega)]
  show xs[(-1 + (xs.length : Int)).toNat]? = _
  have e : (-1 + (xs.length : Int)).toNat = xs.length - 1 := by omega
  rw [e, ← List.getLast?_eq_getElem?]
  exact h
/-! ### the draws' box -/
/-- a box of draws, drawn at most n times so far -/
structure BoxOk (n : Nat) (d : D) : Prop where
  ex : ∃ a b c : Int, d = .list [.int a, .int b, .int c] ∧ 0 ≤ a ∧ 0 ≤ b ∧ b < 4294967296 ∧ 0 ≤ c ∧ c ≤ n
theorem BoxOk.mono {n m : Nat} {d : D} (h : BoxOk n d) (hm : n ≤ m) : BoxOk m d := by
  obtain ⟨a, b, c, e, h1, h2, h3, h4, h5⟩ := h.ex
  exact ⟨a, b, c, e, h1, h2, h3, h4, by omega⟩
end PL
set_option Elab.async false
set_option linter.all false
set_option autoImplicit false
set_option maxRecDepth 100000
set_option maxHeartbeats 4000000
/-! PLn: the readings over data, evaluated from the outside: equations for simp. -/
namespace PL
open PySem PySem.Spec PyProof.Rows L2
/-- a mark on a continuation: simp does not go into it -/
inductive Tag {α : Sort _} (a : α) : Type
  | mk
/-- go on with what an option holds -/
def bnd {α : Type} (o : Option α) (k : α → Prop) (_t : Tag k := .mk) : Prop := match o with
  | some a => k a
  | none => False
theorem bnd_some {α : Type} {a : α} {k : α → Prop} {t : Tag k} : bnd (some a) k t = k a := rfl
theorem bnd_none {α : Type} {k : α → Prop} {t : Tag k} : bnd none k t = False := rfl
theorem ex_bnd {α : Type} {o : Option α} {k : α → Prop} : (∃ a, o = some a ∧ k a) = bnd o k := by
  cases o with
  | none => simp [bnd]
  | some a => simp [bnd]
theorem ex2_bnd {α β : Type} {o : Option α} {p : Option β} {k : α → β → Prop} : (∃ a b, o = some a ∧ p = some b ∧ k a b) = bnd o fun a => bnd p fun b => k a b := by
  cases o <;> cases p <;> simp [bnd]
theorem bnd_iff {α : Type} {o : Option α} {k : α → Prop} {t : Tag k} : bnd o k t = ∃ a, o = some a ∧ k a := ex_bnd.symm
theorem ex2p_bnd {α β : Type} {o : Option (α × β)} {k : α → β → Prop} : (∃ a b, o = some (a, b) ∧ k a b) = bnd o fun p => k p.1 p.2 := by
  rw [bnd_iff]
  apply propext
  exact ⟨fun ⟨a, b, h, w⟩ => ⟨(a, b), h, w⟩, fun ⟨p, h, w⟩ => ⟨p.1, p.2, h, w⟩⟩
theorem bnd_mk {α : Type} {o : Option α} {k : α → Prop} {a : α} (h : o = some a) (hk : k a) : bnd o k := by rw [h]; exact hk
def ind (r : Option D) (k : Int → Prop) (_t : Tag k := .mk) : Prop := match r with
  | some (.int i) => k i
  | _ => False
theorem ind_int {i : Int} {k : Int → Prop} {t : Tag k} : ind (some (.int i)) k t = k i := rfl
theorem ex_ind {o : Option D} {k : Int → Prop} : (∃ i, o = some (.int i) ∧ k i) = ind o k := by
  cases o with
  | none => simp [ind]
  | some d => cases d <;> simp [ind]
/-- a truth that has come -/
def tst (r : Res) (k : Bool → Prop) (_t : Tag k := .mk) : Prop := match r with
  | .fz (.bool b) => k b
  | _ => False
theorem tst_bool {b : Bool} {k : Bool → Prop} {t : Tag k} : tst (.fz (.bool b)) k t = k b := rfl
theorem ex_tst {r : Res} {k : Bool → Prop} : (∃ b, r = .fz (.bool b) ∧ k b) = tst r k := by
  cases r with
  | fz d => cases d <;> simp [tst]
  | _ => simp [tst]
def tsto (o : Out) (k : Bool → Prop) (_t : Tag k := .mk) : Prop := match o with
  | .val (.bool b) => k b
  | _ => False
theorem tsto_bool {b : Bool} {k : Bool → Prop} {t : Tag k} : tsto (.val (.bool b)) k t = k b := rfl
theorem ex_tsto {r : Out} {k : Bool → Prop} : (∃ b, r = .val (.bool b) ∧ k b) = tsto r k := by
  cases r with
  | val d => cases d <;> simp [tsto]
  | _ => simp [tsto]
section
variable {fa fb fc fo fi : DE} {g h : D → D → (Out → Prop) → Prop} {t : DT} {e : DEnv} {fl fh : DO} {gs : DA}
theorem w2_eq {Q : Res → DEnv → Prop} : w2 g fa fb e Q = fa e fun r1 e1 => fb e1 fun r2 e2 => bnd (look e2 r1) fun d1 => bnd (look e2 r2) fun d2 => g d1 d2 fun o => Q o.res e2 := by simp only [w2, ex2_bnd]
theorem wT_eq {Q : Bool → DEnv → Prop} : PL.wT fa e Q = fa e fun r e' => tst r fun b => Q b e' := by simp only [PL.wT, ex_tst]
theorem wChain_eq {Q : Res → DEnv → Prop} : wChain g h fa fb fc e Q = fa e fun r1 e1 => fb e1 fun r2 e2 => bnd (look e2 r1) fun d1 => bnd (look e2 r2) fun d2 => g d1 d2 fun o => tsto o fun k =>
    if k = true then fc e2 fun r3 e3 => bnd (look e3 r2) fun d2 => bnd (look e3 r3) fun d3 => h d2 d3 fun o => Q o.res e3 else Q (.fz (.bool false)) e2 := by simp only [wChain, ex2_bnd, ex_tsto]
theorem wTru_eq {Q : Bool → DEnv → Prop} : PL.wTru fa e Q = fa e fun r e1 => bnd (look e1 r) fun d => truOk d ∧ Q (truth d) e1 := by simp only [PL.wTru, ex_bnd]
theorem wAndV_eq {Q : Res → DEnv → Prop} : wAndV fa fb e Q = fa e fun r e1 => bnd (look e1 r) fun d => truOk d ∧ if truth d = true then fb e1 Q else Q r e1 := by simp only [wAndV, ex_bnd]
theorem wOrV_eq {Q : Res → DEnv → Prop} : wOrV fa fb e Q = fa e fun r e1 => bnd (look e1 r) fun d => truOk d ∧ if truth d = true then Q r e1 else fb e1 Q := by simp only [wOrV, ex_bnd]
theorem wNotV_eq {Q : Res → DEnv → Prop} : wNotV fa e Q = fa e fun r e1 => bnd (look e1 r) fun d => truOk d ∧ Q (.fz (.bool (!truth d))) e1 := by simp only [wNotV, ex_bnd]
theorem wNeg_eq {Q : Res → DEnv → Prop} : wNeg fa e Q = fa e fun r e1 => ind (look e1 r) fun i => Q (.fz (.int (-i))) e1 := by simp only [wNeg, ex_ind]
theorem wPart_eq {Q : Option Int → DEnv → Prop} : wPart fa e Q = fa e fun r e1 => ind (look e1 r) fun i => Q (some i) e1 := by simp only [wPart, ex_ind]
theorem wSl_eq {g : D → Option Int → Option Int → (Out → Prop) → Prop} {Q : Res → DEnv → Prop} : wSl g fa fl fh e Q = fa e fun r e1 => fl e1 fun lo e2 => fh e2 fun hi e3 => bnd (look e3 r) fun d => g d lo hi fun o => Q o.res e3 := by simp only [wSl, ex_bnd]
theorem wN_eq {g : List D → (Out → Prop) → Prop} {Q : Res → DEnv → Prop} : wN g gs e Q = gs e fun rs e1 => bnd (lookAll e1 rs) fun ds => g ds fun o => Q o.res e1 := by simp only [wN, ex_bnd]
theorem wM_eq {ok : D → Prop} {g : D → List D → (Out → Prop) → Prop} {Q : Res → DEnv → Prop} : wM ok g fo gs e Q = fo e fun r e0 => bnd (look e0 r) fun d => ok d ∧ gs e0 fun rs e1 => bnd (look e1 r) fun d => bnd (lookAll e1 rs) fun ds => g d ds fun o => Q o.res e1 := by simp only [wM, ex2_bnd, ex_bnd]
def locR (r : Res) (k : Nat → Prop) (_t : Tag k := .mk) : Prop := match r with
  | .loc i => k i
  | _ => False
theorem locR_loc {i : Nat} {k : Nat → Prop} {t : Tag k} : locR (.loc i) k t = k i := rfl
theorem ex_locR {r : Res} {k : Nat → Prop} : (∃ i, r = .loc i ∧ k i) = locR r k := by
  cases r <;> simp [locR]
theorem wMut_eq {ok : D → Prop} {g : D → List D → (D → Out → Prop) → Prop} {Q : Res → DEnv → Prop} : wMut ok g fo gs e Q = fo e fun r e0 => locR r fun i => bnd (ownAt? e0 i) fun kd => ok kd.2 ∧ gs e0 fun rs e1 => bnd (frzAll e1 rs) fun p => bnd (ownAt? p.2 i) fun kd =>
    g kd.2 p.1 fun d' o => Q o.res (p.2.set i (some (kd.1, d'))) := by
  have : ∀ (r : Res) (e0 : DEnv), (∃ i k d, r = .loc i ∧ ownAt? e0 i = some (k, d) ∧ ok d ∧ gs e0 fun rs e1 => ∃ ds e2 k d, frzAll e1 rs = some (ds, e2) ∧ ownAt? e2 i = some (k, d) ∧ g d ds fun d' o => Q o.res (e2.set i (some (k, d')))) =
      (locR r fun i => bnd (ownAt? e0 i) fun kd => ok kd.2 ∧ gs e0 fun rs e1 => bnd (frzAll e1 rs) fun p => bnd (ownAt? p.2 i) fun kd => g kd.2 p.1 fun d' o => Q o.res (p.2.set i (some (kd.1, d')))) := by
    intro r e0
    rw [← ex_locR]
    apply propext
    constructor
    · rintro ⟨i, k, d, h1, h2, h3, w⟩
      refine ⟨i, h1, bnd_mk h2 ⟨h3, ?_⟩⟩
      have : (fun rs e1 => ∃ ds e2 k d, frzAll e1 rs = some (ds, e2) ∧ ownAt? e2 i = some (k, d) ∧ g d ds fun d' o => Q o.res (e2.set i (some (k, d')))) = fun rs e1 => bnd (frzAll e1 rs) fun p => bnd (ownAt? p.2 i) fun kd => g kd.2 p.1 fun d' o => Q o.res (p.2.set i (some (kd.1, d'))) := by
        funext rs e1
        apply propext
        constructor
        · rintro ⟨ds, e2, k, d, h4, h5, w⟩; exact bnd_mk h4 (bnd_mk h5 w)
        · intro w
          rw [bnd_iff] at w
          obtain ⟨p, h4, w⟩ := w
          rw [bnd_iff] at w
          obtain ⟨q, h5, w⟩ := w
          exact ⟨p.1, p.2, q.1, q.2, h4, h5, w⟩
      rw [← this]; exact w
    · rintro ⟨i, h1, w⟩
      rw [bnd_iff] at w
      obtain ⟨q, h2, h3, w⟩ := w
      refine ⟨i, q.1, q.2, h1, h2, h3, ?_⟩
      have : (fun rs e1 => ∃ ds e2 k d, frzAll e1 rs = some (ds, e2) ∧ ownAt? e2 i = some (k, d) ∧ g d ds fun d' o => Q o.res (e2.set i (some (k, d')))) = fun rs e1 => bnd (frzAll e1 rs) fun p => bnd (ownAt? p.2 i) fun kd => g kd.2 p.1 fun d' o => Q o.res (p.2.set i (some (kd.1, d'))) := by
        funext rs e1
        apply propext
        constructor
        · rintro ⟨ds, e2, k, d, h4, h5, w⟩; exact bnd_mk h4 (bnd_mk h5 w)
        · intro w
          rw [bnd_iff] at w
          obtain ⟨p, h4, w⟩ := w
          rw [bnd_iff] at w
          obtain ⟨q, h5, w⟩ := w
          exact ⟨p.1, p.2, q.1, q.2, h4, h5, w⟩
      rw [this]; exact w
  simp only [wMut, this]
theorem wTup_eq {Q : Res → DEnv → Prop} : wTup gs e Q = gs e fun rs e1 => rs.length ≤ 1000 ∧ bnd (frzAll e1 rs) fun p => Q (.fz (.tuple p.1)) p.2 := by simp only [wTup, ex2p_bnd]
theorem wLst_eq {Q : Res → DEnv → Prop} : wLst gs e Q = gs e fun rs e1 => rs.length ≤ 1000 ∧ bnd (frzAll e1 rs) fun p => Q (.ow (.list p.1)) p.2 := by simp only [wLst, ex2p_bnd]
/-- a call of a def's promise -/
def callT (g : DSp) (ds : List D) (Q : Res → List D → Prop) (_t : Tag Q := .mk) : Prop := g ds Q
theorem wCall_eq {ks : List Kd} {g : DSp} {Q : Res → DEnv → Prop} : wCall ks g gs e Q = gs e fun rs e1 => (lent ks rs).Nodup ∧ bnd (prep ks rs e1) fun p => lentOk ks rs p.1 p.2 ∧ callT g p.1 fun r outs => r.good = true → outs.length = ks.length → Q r (back ks rs outs p.2) := by simp only [wCall, ex2p_bnd, callT]
def tupR (r : Option D) (k : List D → Prop) (_t : Tag k := .mk) : Prop := match r with
  | some (.tuple ds) => k ds
  | _ => False
theorem tupR_tup {ds : List D} {k : List D → Prop} {t : Tag k} : tupR (some (.tuple ds)) k t = k ds := rfl
theorem ex_tupR {o : Option D} {k : List D → Prop} : (∃ ds, o = some (.tuple ds) ∧ k ds) = tupR o k := by
  cases o with
  | none => simp [tupR]
  | some d => cases d <;> simp [tupR]
theorem wGTup_eq {n : Nat} {gs : DGs} {r : Res} {Q : DEnv → Prop} : wGTup n gs r e Q = bnd (unp e r) fun ds => ds.length = n ∧ gs ds e Q := by simp only [wGTup, ex_bnd]
def cns (l : List D) (k : D → List D → Prop) (_t : Tag k := .mk) : Prop := match l with
  | d :: r => k d r
  | _ => False
theorem cns_cons {d : D} {r : List D} {k : D → List D → Prop} {t : Tag k} : cns (d :: r) k t = k d r := rfl
theorem ex_cns {o : List D} {k : D → List D → Prop} : (∃ d r, o = d :: r ∧ k d r) = cns o k := by
  apply propext
  constructor
  · rintro ⟨d, r, rfl, w⟩; exact w
  · intro w
    match o, w with
    | d :: r, w => exact ⟨d, r, rfl, w⟩
theorem wGCons_eq {g : DG} {gs : DGs} {ds : List D} {Q : DEnv → Prop} : wGCons g gs ds e Q = cns ds fun d r => g (.fz d) e fun e1 => gs r e1 Q := by simp only [wGCons, ex_cns]
def two (l : List D) (k : D → D → Prop) (_t : Tag k := .mk) : Prop := match l with
  | [d, r] => k d r
  | _ => False
theorem two_two {d r : D} {k : D → D → Prop} {t : Tag k} : two [d, r] k t = k d r := rfl
theorem wGSub_eq {g : D → D → D → (D → Prop) → Prop} {r : Res} {Q : DEnv → Prop} : wGSub g fo fi r e Q = fo e fun ro e1 => locR ro fun i => fi e1 fun rk e2 => bnd (frzAll e2 [r, rk]) fun p => two p.1 fun dv dk => bnd (ownAt? p.2 i) fun kd => g kd.2 dk dv fun d' => Q (p.2.set i (some (kd.1, d'))) := by
  have : ∀ (ro : Res) (e1 : DEnv), (∃ i, ro = .loc i ∧ fi e1 fun rk e2 => ∃ dv dk e3 k d, frzAll e2 [r, rk] = some ([dv, dk], e3) ∧ ownAt? e3 i = some (k, d) ∧ g d dk dv fun d' => Q (e3.set i (some (k, d')))) =
      (locR ro fun i => fi e1 fun rk e2 => bnd (frzAll e2 [r, rk]) fun p => two p.1 fun dv dk => bnd (ownAt? p.2 i) fun kd => g kd.2 dk dv fun d' => Q (p.2.set i (some (kd.1, d')))) := by
    intro ro e1
    rw [← ex_locR]
    congr 1
    funext i
    congr 1
    congr 1
    funext rk e2
    apply propext
    constructor
    · rintro ⟨dv, dk, e3, k, d, h1, h2, w⟩
      exact bnd_mk h1 (show bnd (ownAt? e3 i) fun kd => g kd.2 dk dv fun d' => Q (e3.set i (some (kd.1, d'))) from bnd_mk h2 w)
    · intro w
      rw [bnd_iff] at w
      obtain ⟨⟨ds, e3⟩, h1, w⟩ := w
      match ds, h1, w with
      | [dv, dk], h1, w =>
        have w : bnd (ownAt? e3 i) fun kd => g kd.2 dk dv fun d' => Q (e3.set i (some (kd.1, d'))) := w
        rw [bnd_iff] at w
        obtain ⟨⟨k, d⟩, h2, w⟩ := w
        exact ⟨dv, dk, e3, k, d, h1, h2, w⟩
  simp only [wGSub, this]
theorem wIsi_eq {n : String} {Q : Res → DEnv → Prop} : wIsi n fa e Q = fa e fun r e1 => bnd (look e1 r) fun d => noDict d = true ∧ Q (.fz (.bool (isTy (tyN d) n))) e1 := by simp only [wIsi, ex_bnd]
theorem wIsi2_eq {n m : String} {Q : Res → DEnv → Prop} : wIsi2 n m fa e Q = fa e fun r e1 => bnd (look e1 r) fun d => noDict d = true ∧ Q (.fz (.bool (isTy (tyN d) n || isTy (tyN d) m))) e1 := by simp only [wIsi2, ex_bnd]
theorem wIt_eq {Q : List Res → DEnv → Prop} : wIt fa e Q = fa e fun r e1 => bnd (frz e1 r) fun p => bnd (itD p.1) fun ds => Q (ds.map Res.fz) p.2 := by
  have : ∀ (r : Res) (e1 : DEnv), (∃ d e2 ds, frz e1 r = some (d, e2) ∧ itD d = some ds ∧ Q (ds.map Res.fz) e2) = bnd (frz e1 r) fun p => bnd (itD p.1) fun ds => Q (ds.map Res.fz) p.2 := by
    intro r e1
    apply propext
    constructor
    · rintro ⟨d, e2, ds, h1, h2, w⟩; exact bnd_mk h1 (bnd_mk h2 w)
    · intro w
      rw [bnd_iff] at w
      obtain ⟨⟨d, e2⟩, h1, w⟩ := w
      rw [bnd_iff] at w
      obtain ⟨ds, h2, w⟩ := w
      exact ⟨d, e2, ds, h1, h2, w⟩
  simp only [wIt, this]
def ints1 (o : Option (List D)) (k : Int → Prop) (_t : Tag k := .mk) : Prop := match o with
  | some [.int i] => k i
  | _ => False
theorem ints1_int {i : Int} {k : Int → Prop} {t : Tag k} : ints1 (some [.int i]) k t = k i := rfl
def ints2 (o : Option (List D)) (k : Int → Int → Prop) (_t : Tag k := .mk) : Prop := match o with
  | some [.int i, .int j] => k i j
  | _ => False
theorem ints2_int {i j : Int} {k : Int → Int → Prop} {t : Tag k} : ints2 (some [.int i, .int j]) k t = k i j := rfl
theorem wRng1_eq {Q : List Res → DEnv → Prop} : wRng1 gs e Q = gs e fun rs e1 => ints1 (lookAll e1 rs) fun j => (-(2 ^ 62) ≤ j ∧ j < 2 ^ 62) ∧ Q (rngD 0 j.toNat) e1 := by
  have : ∀ (o : Option (List D)) (k : Int → Prop), (∃ i, o = some [.int i] ∧ k i) = ints1 o k := by
    intro o k
    apply propext
    constructor
    · rintro ⟨i, rfl, w⟩; exact w
    · intro w
      unfold ints1 at w
      split at w
      · exact ⟨_, rfl, w⟩
      · exact w.elim
  simp only [wRng1, this]
theorem wRng2_eq {Q : List Res → DEnv → Prop} : wRng2 gs e Q = gs e fun rs e1 => ints2 (lookAll e1 rs) fun i j => (-(2 ^ 62) ≤ i ∧ i < 2 ^ 62 ∧ -(2 ^ 62) ≤ j ∧ j < 2 ^ 62) ∧ Q (rngD i (j - i).toNat) e1 := by
  have : ∀ (o : Option (List D)) (k : Int → Int → Prop), (∃ i j, o = some [.int i, .int j] ∧ k i j) = ints2 o k := by
    intro o k
    apply propext
    constructor
    · rintro ⟨i, j, rfl, w⟩; exact w
    · intro w
      unfold ints2 at w
      split at w
      · exact ⟨_, _, rfl, w⟩
      · exact w.elim
  simp only [wRng2, this]
theorem wLenSc_eq {i : Nat} {Q : Res → DEnv → Prop} : wLenSc i e Q = bnd (scAt e i) fun ds => Q (.fz (.int (ds.length : Int))) e := by simp only [wLenSc, ex_bnd]
theorem wIxSc_eq {i : Nat} {Q : Res → DEnv → Prop} : wIxSc i fa e Q = ((∃ ds, scAt e i = some ds) ∧ fa e fun r e1 => bnd (scAt e1 i) fun ds => ind (look e1 r) fun k => ind (atI ds k) fun n => Q (.fz (.int n)) e1) := by
  have : ∀ (r : Res) (e1 : DEnv), (∃ ds k n, scAt e1 i = some ds ∧ look e1 r = some (.int k) ∧ atI ds k = some (.int n) ∧ Q (.fz (.int n)) e1) = bnd (scAt e1 i) fun ds => ind (look e1 r) fun k => ind (atI ds k) fun n => Q (.fz (.int n)) e1 := by
    intro r e1
    simp only [← ex_bnd, ← ex_ind, exists_and_left]
  simp only [wIxSc, this]
theorem wPar_eq {i j : Nat} {D : DEnds} : wPar i j gs D e = gs e fun rs e1 => bnd rs[0]? fun r1 => bnd rs[1]? fun r2 => rs.length = 2 ∧ bnd (fixR e1 r1) fun p => bnd (fixR p.2 r2) fun q => asgn j q.1 q.2 fun e4 => asgn i p.1 e4 D.nx := by
  have : ∀ (rs : List Res) (e1 : DEnv), (∃ r1 r2 s1 e2 s2 e3, rs = [r1, r2] ∧ fixR e1 r1 = some (s1, e2) ∧ fixR e2 r2 = some (s2, e3) ∧ asgn j s2 e3 fun e4 => asgn i s1 e4 D.nx) =
      bnd rs[0]? fun r1 => bnd rs[1]? fun r2 => rs.length = 2 ∧ bnd (fixR e1 r1) fun p => bnd (fixR p.2 r2) fun q => asgn j q.1 q.2 fun e4 => asgn i p.1 e4 D.nx := by
    intro rs e1
    apply propext
    constructor
    · rintro ⟨r1, r2, s1, e2, s2, e3, rfl, h1, h2, w⟩
      refine ⟨rfl, bnd_mk h1 (bnd_mk h2 w)⟩
    · intro w
      rw [bnd_iff] at w
      obtain ⟨r1, h1, w⟩ := w
      rw [bnd_iff] at w
      obtain ⟨r2, h2, hl, w⟩ := w
      rw [bnd_iff] at w
      obtain ⟨⟨s1, e2⟩, h3, w⟩ := w
      rw [bnd_iff] at w
      obtain ⟨⟨s2, e3⟩, h4, w⟩ := w
      refine ⟨r1, r2, s1, e2, s2, e3, ?_, h3, h4, w⟩
      match rs, hl with
      | [a, b], _ => cases h1; cases h2; rfl
  simp only [wPar, this]
def asgnT (i : Nat) (r : Res) (e : DEnv) (Q : DEnv → Prop) (_t : Tag Q := .mk) : Prop := asgn i r e Q
theorem asgn_eq {i : Nat} {r : Res} {Q : DEnv → Prop} : asgn i r e Q = asgnT i r e Q := rfl
theorem asgn_fz {i : Nat} {d : D} {Q : DEnv → Prop} {t : Tag Q} : asgnT i (.fz d) e Q t = (okSlot e i = true ∧ Q (e.set i (some (.fz, d)))) := rfl
theorem asgn_ow {i : Nat} {d : D} {Q : DEnv → Prop} {t : Tag Q} : asgnT i (.ow d) e Q t = (okSlot e i = true ∧ Q (e.set i (some (.ow, d)))) := rfl
theorem asgn_loc {i j : Nat} {Q : DEnv → Prop} {t : Tag Q} : asgnT i (.loc j) e Q t = (okSlot e i = true ∧ bnd (frz e (.loc j)) fun p => Q (p.2.set i (some (.fz, p.1)))) := by
  show (okSlot e i = true ∧ ∃ d e', frz e (.loc j) = some (d, e') ∧ Q (e'.set i (some (.fz, d)))) = _
  rw [ex2p_bnd]
def retT (r : Res) (e : DEnv) (Q : Res → DEnv → Prop) (_t : Tag Q := .mk) : Prop := retR r e Q
theorem retR_eq {r : Res} {Q : Res → DEnv → Prop} : retR r e Q = retT r e Q := rfl
theorem retR_fz {d : D} {Q : Res → DEnv → Prop} {t : Tag Q} : retT (.fz d) e Q t = Q (.fz d) e := rfl
theorem retR_ow {d : D} {Q : Res → DEnv → Prop} {t : Tag Q} : retT (.ow d) e Q t = Q (.ow d) e := rfl
def owA (e : DEnv) (i : Nat) : Option D := match e[i]? with
  | some (some (.ow, d)) => some d
  | _ => none
theorem retR_loc {j : Nat} {Q : Res → DEnv → Prop} {t : Tag Q} : retT (.loc j) e Q t = bnd (owA e j) fun d => Q (.ow d) (e.set j none) := by
  show (∃ d, e[j]? = some (some (.ow, d)) ∧ Q (.ow d) (e.set j none)) = _
  rw [← ex_bnd]
  congr 1
  funext d
  have : (e[j]? = some (some (.ow, d))) = (owA e j = some d) := by
    apply propext
    unfold owA
    constructor
    · intro h; rw [h]
    · intro h
      split at h
      · rename_i q; cases h; exact q
      · cases h
  rw [this]
/-! plain ones, in full -/
def forLT (g : DG) (b : DS) (D : DEnds) (l : List Res) (e : DEnv) (_t : Tag (g, b, D) := .mk) : Prop := forL g b D l e
def lcLT (g : DG) (t : DT) (f : DE) (vs : List Nat) (st : DEnv → Prop) (Q : List D → DEnv → Prop) (l : List Res) (acc : List D) (e : DEnv) (_t : Tag (g, t, f, vs, st, Q) := .mk) : Prop := lcL g t f vs st Q l acc e
theorem wFor_eq {fi : DI} {g : DG} {b : DS} {D : DEnds} : wFor fi g b D e = fi e fun items e1 => forLT g b D items e1 := rfl
theorem wLc_eq {fi : DIc} {g : DG} {t : DT} {f : DE} {vs : List Nat} {Q : Res → DEnv → Prop} : wLc fi g t f vs e Q = fi e fun items st ls e1 => items.length ≤ 100000 ∧ (∀ v ∈ vs, okSlot e1 v = true ∧ v ∉ ls) ∧ lcLT g t f vs st (fun acc e2 => Q (.ow (.list acc)) (restE e1 e2 vs)) items [] (wipeE e1 vs) := rfl
theorem wIc_eq {fi : DI} {Q : List Res → (DEnv → Prop) → List Nat → DEnv → Prop} : wIc fi e Q = fi e fun items e1 => Q items (fun _ => True) [] e1 := rfl
def lstO (o : Option (Kd × D)) (k : List D → Prop) (_t : Tag k := .mk) : Prop := match o with
  | some (_, .list ds) => k ds
  | _ => False
theorem lstO_list {x : Kd} {ds : List D} {k : List D → Prop} {t : Tag k} : lstO (some (x, .list ds)) k t = k ds := rfl
theorem wItB_eq {Q : List Res → (DEnv → Prop) → List Nat → DEnv → Prop} : wItB fa e Q = fa e fun r e1 => locR r fun i => lstO (ownAt? e1 i) fun ds => Q (ds.map Res.fz) (fun e2 => ∃ k, ownAt? e2 i = some (k, .list ds)) [i] e1 := by
  have : ∀ (r : Res) (e1 : DEnv), (∃ i k ds, r = .loc i ∧ ownAt? e1 i = some (k, .list ds) ∧ Q (ds.map Res.fz) (fun e2 => ∃ k, ownAt? e2 i = some (k, .list ds)) [i] e1) = locR r fun i => lstO (ownAt? e1 i) fun ds => Q (ds.map Res.fz) (fun e2 => ∃ k, ownAt? e2 i = some (k, .list ds)) [i] e1 := by
    intro r e1
    apply propext
    constructor
    · rintro ⟨i, k, ds, rfl, h, w⟩
      show lstO (ownAt? e1 i) _
      rw [h]; exact w
    · intro w
      cases r with
      | loc i =>
        have w : lstO (ownAt? e1 i) fun ds => Q (ds.map Res.fz) (fun e2 => ∃ k, ownAt? e2 i = some (k, .list ds)) [i] e1 := w
        unfold lstO at w
        split at w
        · rename_i x ds h; exact ⟨i, x, ds, rfl, h, w⟩
        · exact w.elim
      | _ => exact (show False from w).elim
  simp only [wItB, this]
theorem wVar_eq {i : Nat} {Q : Res → DEnv → Prop} : wVar i e Q = bnd e[i]? fun s => bnd s fun x => Q (rVar i x) e := by
  unfold wVar
  cases e[i]? with
  | none => rfl
  | some s => cases s <;> rfl
theorem wC_eq {d : D} {Q : Res → DEnv → Prop} : wC d e Q = Q (.fz d) e := rfl
theorem wNil_eq {Q : List Res → DEnv → Prop} : wNil e Q = Q [] e := rfl
theorem wCons_eq {Q : List Res → DEnv → Prop} : wCons fa gs e Q = fa e fun r e1 => gs e1 fun rs e2 => Q (r :: rs) e2 := rfl
theorem wAndT_eq {f g : DT} {Q : Bool → DEnv → Prop} : wAndT f g e Q = f e fun k e1 => if k = true then g e1 Q else Q false e1 := rfl
theorem wOrT_eq {f g : DT} {Q : Bool → DEnv → Prop} : wOrT f g e Q = f e fun k e1 => if k = true then Q true e1 else g e1 Q := rfl
theorem wNotT_eq {f : DT} {Q : Bool → DEnv → Prop} : wNotT f e Q = f e fun k e1 => Q (!k) e1 := rfl
theorem wIfE_eq {Q : Res → DEnv → Prop} : wIfE t fa fb e Q = t e fun k e1 => if k = true then fa e1 Q else fb e1 Q := rfl
theorem wNoPart_eq {Q : Option Int → DEnv → Prop} : wNoPart e Q = Q none e := rfl
theorem wYes_eq {Q : Bool → DEnv → Prop} : wYes e Q = Q true e := rfl
theorem wNext_eq {D : DEnds} : wNext D e = D.nx e := rfl
theorem wBreak_eq {D : DEnds} : wBreak D e = D.bk e := rfl
theorem wCont_eq {D : DEnds} : wCont D e = D.ct e := rfl
theorem wSeq_eq {g g' : DS} {D : DEnds} : wSeq g g' D e = g { D with nx := fun e1 => g' D e1 } e := rfl
theorem wDrop_eq {D : DEnds} : wDrop fa D e = fa e fun _ e1 => D.nx e1 := rfl
theorem wRet_eq {D : DEnds} : wRet fa D e = fa e fun r e1 => retT r e1 D.rt := rfl
theorem wRetN_eq {D : DEnds} : wRetN D e = D.rt (.fz .none) e := rfl
theorem wIf_eq {g g' : DS} {D : DEnds} : wIf t g g' D e = t e fun k e1 => if k = true then g D e1 else g' D e1 := rfl
theorem wAsg_eq {g : DG} {D : DEnds} : wAsg fa g D e = fa e fun r e1 => g r e1 D.nx := rfl
theorem wGNil_eq {ds : List D} {Q : DEnv → Prop} : wGNil ds e Q = (ds = [] ∧ Q e) := rfl
theorem gOfB_eq {ks : List Kd} {n : Nat} {b : DS} {ds : List D} {Q : Res → List D → Prop} : gOfB ks n b ds Q = b (endsF ks Q) (argE ks ds ++ List.replicate n none) := rfl
theorem endsF_nx {ks : List Kd} {Q : Res → List D → Prop} : (endsF ks Q).nx e = Q (.fz .none) (outsOf ks e) := rfl
theorem endsF_rt {ks : List Kd} {r : Res} {Q : Res → List D → Prop} : (endsF ks Q).rt r e = (r.good = true ∧ Q r (outsOf ks e)) := rfl
end
/-! the operators' equations -/
theorem g1_eq {g : D → (Out → Prop) → Prop} {d : D} {Q : Out → Prop} : g1 g [d] Q = g d Q := rfl
theorem g2_eq {g : D → D → (Out → Prop) → Prop} {d d' : D} {Q : Out → Prop} : g2 g [d, d'] Q = g d d' Q := rfl
theorem gEq_eq {d d' : D} {Q : Out → Prop} : gEq d d' Q = (eqOk d d' ∧ Q (.val (.bool (PyData.eqv d d')))) := rfl
theorem gNe_eq {d d' : D} {Q : Out → Prop} : gNe d d' Q = (eqOk d d' ∧ Q (.val (.bool (!PyData.eqv d d')))) := rfl
theorem gRepr_eq {d : D} {Q : Out → Prop} : gRepr d Q = ((d.canLay0 = true ∧ d.showable = true ∧ d.depth ≤ 64 ∧ d.shown.length ≤ sizeLine) ∧ Q (.val (.str d.shown))) := rfl
theorem gIn_str {neg : Bool} {d : D} {z : Str} {Q : Out → Prop} : gIn neg d (.str z) Q = (∃ c, d = .str ⟨#[c]⟩ ∧ Q (.val (.bool (if neg then !decide (c ∈ z.cps.toList) else decide (c ∈ z.cps.toList))))) := rfl
theorem gIn_list {neg : Bool} {d : D} {ds : List D} {Q : Out → Prop} : gIn neg d (.list ds) Q = ((flat d = true ∧ ds.all flat = true) ∧ Q (.val (.bool (if neg then !inD d ds else inD d ds)))) := rfl
theorem gIn_tuple {neg : Bool} {d : D} {ds : List D} {Q : Out → Prop} : gIn neg d (.tuple ds) Q = ((flat d = true ∧ ds.all flat = true) ∧ Q (.val (.bool (if neg then !inD d ds else inD d ds)))) := rfl
theorem gSl_list {ds : List D} {lo hi : Option Int} {Q : Out → Prop} : gSl (.list ds) lo hi Q = Q (.new (.list (cutD ds lo hi))) := rfl
theorem gSl_tuple {ds : List D} {lo hi : Option Int} {Q : Out → Prop} : gSl (.tuple ds) lo hi Q = Q (.tup (cutD ds lo hi)) := rfl
theorem gSl_str {z : Str} {lo hi : Option Int} {Q : Out → Prop} : gSl (.str z) lo hi Q = (z.length ≤ 100000 ∧ Q (.val (.str (cutS z lo hi)))) := rfl
theorem gIx_list {ds : List D} {i : Int} {Q : Out → Prop} : gIx (.list ds) (.int i) Q = bnd (atI ds i) fun d => Q (.val d) := ex_bnd
theorem gIx_tuple {ds : List D} {i : Int} {Q : Out → Prop} : gIx (.tuple ds) (.int i) Q = bnd (atI ds i) fun d => Q (.val d) := ex_bnd
theorem gIx_str {z : Str} {i : Int} {Q : Out → Prop} : gIx (.str z) (.int i) Q = (z.length ≤ 100000 ∧ bnd (atI z.cps.toList i) fun c => Q (.val (.str ⟨#[c]⟩))) := by
  show (z.length ≤ 100000 ∧ ∃ c, atI z.cps.toList i = some c ∧ Q (.val (.str ⟨#[c]⟩))) = _
  rw [ex_bnd]
theorem gSetL_eq {ds : List D} {i : Int} {d : D} {Q : D → Prop} : gSetL (.list ds) (.int i) d Q = bnd (ixN ds.length i) fun j => Q (.list (ds.set j d)) := ex_bnd
theorem gSum_eq {ds : List D} {Q : Out → Prop} : gSum (.list ds) Q = bnd (ints? ds) fun ns => Q (.val (.int ns.sum)) := ex_bnd
theorem gBools_eq {f : List Bool → Bool} {ds : List D} {Q : Out → Prop} : gBools f (.list ds) Q = bnd (bools? ds) fun ns => Q (.val (.bool (f ns))) := ex_bnd
theorem gJoin_eq {a : Str} {d : D} {Q : Out → Prop} : gJoin (.str a) [d] Q = bnd (seqOf d) fun ds => bnd (strs? ds) fun ys => (ys.map (·.length)).sum + ys.length * a.length ≤ 100000 ∧ Q (.val (.str (Txt.join a ys))) := by
  rw [bnd_iff]
  apply propext
  constructor
  · rintro ⟨ds, ys, h1, h2, w⟩; exact ⟨ds, h1, bnd_mk h2 w⟩
  · rintro ⟨ds, h1, w⟩
    rw [bnd_iff] at w
    obtain ⟨ys, h2, w⟩ := w
    exact ⟨ds, ys, h1, h2, w⟩
theorem ixN_0 {n : Nat} : ixN (n + 1) 0 = some 0 := by
  unfold ixN
  rw [if_pos (by decide), if_pos (by omega)]; rfl
theorem atI_0 {α : Type} {x0 : α} {l : List α} : atI (x0 :: l) 0 = some x0 := by
  unfold atI
  rw [show (x0 :: l).length = l.length + 1 from rfl, ixN_0]; rfl
theorem ixN_1 {n : Nat} : ixN (n + 2) 1 = some 1 := by
  unfold ixN
  rw [if_pos (by decide), if_pos (by omega)]; rfl
theorem atI_1 {α : Type} {x0 x1 : α} {l : List α} : atI (x0 :: x1 :: l) 1 = some x1 := by
  unfold atI
  rw [show (x0 :: x1 :: l).length = l.length + 2 from rfl, ixN_1]; rfl
theorem ixN_2 {n : Nat} : ixN (n + 3) 2 = some 2 := by
  unfold ixN
  rw [if_pos (by decide), if_pos (by omega)]; rfl
theorem atI_2 {α : Type} {x0 x1 x2 : α} {l : List α} : atI (x0 :: x1 :: x2 :: l) 2 = some x2 := by
  unfold atI
  rw [show (x0 :: x1 :: x2 :: l).length = l.length + 3 from rfl, ixN_2]; rfl
theorem ixN_3 {n : Nat} : ixN (n + 4) 3 = some 3 := by
  unfold ixN
  rw [if_pos (by decide), if_pos (by omega)]; rfl
theorem atI_3 {α : Type} {x0 x1 x2 x3 : α} {l : List α} : atI (x0 :: x1 :: x2 :: x3 :: l) 3 = some x3 := by
  unfold atI
  rw [show (x0 :: x1 :: x2 :: x3 :: l).length = l.length + 4 from rfl, ixN_3]; rfl
theorem ixN_4 {n : Nat} : ixN (n + 5) 4 = some 4 := by
  unfold ixN
  rw [if_pos (by decide), if_pos (by omega)]; rfl
theorem atI_4 {α : Type} {x0 x1 x2 x3 x4 : α} {l : List α} : atI (x0 :: x1 :: x2 :: x3 :: x4 :: l) 4 = some x4 := by
  unfold atI
  rw [show (x0 :: x1 :: x2 :: x3 :: x4 :: l).length = l.length + 5 from rfl, ixN_4]; rfl
theorem ixN_5 {n : Nat} : ixN (n + 6) 5 = some 5 := by
  unfold ixN
  rw [if_pos (by decide), if_pos (by omega)]; rfl
theorem atI_5 {α : Type} {x0 x1 x2 x3 x4 x5 : α} {l : List α} : atI (x0 :: x1 :: x2 :: x3 :: x4 :: x5 :: l) 5 = some x5 := by
  unfold atI
  rw [show (x0 :: x1 :: x2 :: x3 :: x4 :: x5 :: l).length = l.length + 6 from rfl, ixN_5]; rfl
theorem ixN_6 {n : Nat} : ixN (n + 7) 6 = some 6 := by
  unfold ixN
  rw [if_pos (by decide), if_pos (by omega)]; rfl
theorem atI_6 {α : Type} {x0 x1 x2 x3 x4 x5 x6 : α} {l : List α} : atI (x0 :: x1 :: x2 :: x3 :: x4 :: x5 :: x6 :: l) 6 = some x6 := by
  unfold atI
  rw [show (x0 :: x1 :: x2 :: x3 :: x4 :: x5 :: x6 :: l).length = l.length + 7 from rfl, ixN_6]; rfl
theorem ixN_7 {n : Nat} : ixN (n + 8) 7 = some 7 := by
  unfold ixN
  rw [if_pos (by decide), if_pos (by omega)]; rfl
theorem atI_7 {α : Type} {x0 x1 x2 x3 x4 x5 x6 x7 : α} {l : List α} : atI (x0 :: x1 :: x2 :: x3 :: x4 :: x5 :: x6 :: x7 :: l) 7 = some x7 := by
  unfold atI
  rw [show (x0 :: x1 :: x2 :: x3 :: x4 :: x5 :: x6 :: x7 :: l).length = l.length + 8 from rfl, ixN_7]; rfl
end PL
set_option Elab.async false
set_option linter.all false
set_option autoImplicit false
set_option maxRecDepth 100000
set_option maxHeartbeats 4000000
/-! PLo: texts of few signs. -/
namespace PL
open PySem PySem.Spec PyProof.Rows L2
theorem callT_of {g : DSp} {ds : List D} {Q : Res → List D → Prop} {t : Tag Q} (h : g ds Q) : callT g ds Q t := h
/-- a text of at most n signs, all of them of seven bits -/
structure TOk (n : Nat) (z : Str) : Prop where
  len : z.cps.toList.length ≤ n
  asc : ∀ c ∈ z.cps.toList, c < 128
theorem slen (z : Str) : z.length = z.cps.toList.length := by simp [Str.length]
theorem TOk.l {n : Nat} {z : Str} (h : TOk n z) : z.length ≤ n := by rw [slen]; exact h.len
theorem TOk.mono {n m : Nat} {z : Str} (h : TOk n z) (hm : n ≤ m) : TOk m z := ⟨Nat.le_trans h.len hm, h.asc⟩
theorem app_l2 (a b : Str) : (a ++ b).cps.toList = a.cps.toList ++ b.cps.toList := by
  show (a.cps ++ b.cps).toList = _
  simp
theorem TOk.app {n m : Nat} {a b : Str} (h : TOk n a) (h' : TOk m b) : TOk (n + m) (a ++ b) := by
  refine ⟨?_, ?_⟩
  · rw [app_l2, List.length_append]; have := h.len; have := h'.len; omega
  · rw [app_l2]; intro c hc
    rcases List.mem_append.mp hc with q | q
    · exact h.asc c q
    · exact h'.asc c q
theorem TOk.cut {n : Nat} {a : Str} (h : TOk n a) (lo hi : Option Int) : TOk n (cutS a lo hi) := by
  unfold cutS
  refine ⟨?_, ?_⟩
  · show ((a.cps.toList.drop _).take _).toArray.toList.length ≤ n
    rw [List.toList_toArray]
    exact Nat.le_trans (Nat.le_trans (List.length_take_le' _ _) (by rw [List.length_drop]; omega)) h.len
  · intro c hc
    have hc : c ∈ ((a.cps.toList.drop (HT.sIx a.length 0 lo)).take (HT.sIx a.length a.length hi - HT.sIx a.length 0 lo)) := by simpa using hc
    exact h.asc c (List.mem_of_mem_drop (List.mem_of_mem_take hc))
theorem TOk.one {c : Nat} (h : c < 128) : TOk 1 ⟨#[c]⟩ := ⟨by simp, fun d hd => by
  have : d = c := by simpa using hd
  omega⟩
theorem fold_rep (a : Array Nat) : ∀ (k : Nat) (acc : Array Nat), ((List.replicate k a).foldl (· ++ ·) acc).toList = acc.toList ++ (List.replicate k a.toList).flatten
  | 0, acc => by simp
  | k + 1, acc => by
    rw [List.replicate_succ, List.foldl_cons, fold_rep a k, List.replicate_succ, List.flatten_cons, Array.toList_append, List.append_assoc]
theorem mul_l (a : Str) (k : Int) : (Txt.mul a k).cps.toList = (List.replicate k.toNat a.cps.toList).flatten := by
  unfold Txt.mul
  split
  · have : k.toNat = 0 := by omega
    rw [this]; rfl
  · split
    · rename_i h1 h2
      simp only [Bool.or_eq_true, beq_iff_eq] at h2
      rcases h2 with h2 | h2
      · subst h2
        show _ = (List.replicate 1 a.cps.toList).flatten
        simp
      · have : a.cps.toList = [] := List.length_eq_zero_iff.mp (by rw [← slen]; exact h2)
        rw [this]
        generalize k.toNat = n
        induction n with
        | zero => rfl
        | succ n ih => rw [List.replicate_succ, List.flatten_cons, ← ih]; rfl
    · show ((List.replicate k.toNat a.cps).foldl (· ++ ·) #[]).toList = _
      rw [fold_rep]; simp
theorem TOk.mul {n : Nat} {a : Str} (h : TOk n a) (k : Int) : TOk (n * k.toNat) (Txt.mul a k) := by
  refine ⟨?_, ?_⟩
  · rw [mul_l, List.length_flatten, List.map_replicate, List.sum_replicate_nat, Nat.mul_comm]
    exact Nat.mul_le_mul_right _ h.len
  · rw [mul_l]; intro c hc
    obtain ⟨l, hl, hc⟩ := List.mem_flatten.mp hc
    obtain ⟨_, rfl⟩ := List.mem_replicate.mp hl
    exact h.asc c hc
theorem TOk.upper {n : Nat} {a : Str} (h : TOk n a) : TOk n (Txt.upper a) := by
  rw [upper_ascii h.asc]
  refine ⟨by simpa using h.len, fun c hc => ?_⟩
  have hc : c ∈ a.cps.toList.map up1 := by simpa using hc
  obtain ⟨d, hd, rfl⟩ := List.mem_map.mp hc
  have := h.asc d hd
  unfold up1
  split <;> omega
theorem join_l (ys : List Str) : (Txt.join Str.empty ys).cps.toList = (ys.map fun y => y.cps.toList).flatten := by
  have h : ∀ (rest : List Str) (acc : Array Nat), (rest.foldl (fun acc p => acc ++ Str.empty.cps ++ p.cps) acc).toList = acc.toList ++ (rest.map fun y => y.cps.toList).flatten := by
    intro rest
    induction rest with
    | nil => intro acc; simp
    | cons p r ih =>
      intro acc
      rw [List.foldl_cons, ih, Array.toList_append, Array.toList_append, List.map_cons, List.flatten_cons, ← List.append_assoc]
      have : Str.empty.cps.toList = [] := rfl
      rw [this, List.append_nil]
  cases ys with
  | nil => rfl
  | cons y r =>
    show (r.foldl (fun acc p => acc ++ Str.empty.cps ++ p.cps) y.cps).toList = _
    rw [h]; rfl
theorem TOk.join {ys : List Str} (h : ∀ y ∈ ys, TOk 1 y) : TOk ys.length (Txt.join Str.empty ys) := by
  refine ⟨?_, ?_⟩
  · rw [join_l, List.length_flatten, List.map_map]
    induction ys with
    | nil => exact Nat.le_refl _
    | cons y r ih =>
      have h1 := (h y (by simp)).len
      have := ih fun z hz => h z (List.mem_cons_of_mem _ hz)
      simp only [List.map_cons, List.sum_cons, List.length_cons, Function.comp] at this ⊢
      omega
  · rw [join_l]; intro c hc
    obtain ⟨l, hl, hc⟩ := List.mem_flatten.mp hc
    obtain ⟨y, hy, rfl⟩ := List.mem_map.mp hl
    exact (h y hy).asc c hc
theorem sum_len {ys : List Str} (h : ∀ y ∈ ys, TOk 1 y) : (ys.map (·.length)).sum ≤ ys.length := by
  induction ys with
  | nil => exact Nat.le_refl _
  | cons y r ih =>
    have h1 := (h y (by simp)).l
    have := ih fun z hz => h z (List.mem_cons_of_mem _ hz)
    simp only [List.map_cons, List.sum_cons, List.length_cons]
    omega
theorem TOk.strOk {n : Nat} {z : Str} (h : TOk n z) : PyData.canLay0 (.str z) = true := by
  rw [PyData.canLay0]
  unfold PyData.strOk
  rw [← Array.all_toList, List.all_eq_true]
  intro c hc
  have := h.asc c hc
  exact decide_eq_true (by omega)
theorem TOk.shown {n : Nat} {z : Str} (h : TOk n z) : (PyData.shown (.str z)).length ≤ 10 * n + 2 := by
  rw [PyData.shown]
  have := StrLaws.reprText_len z fun c hc => Nat.lt_of_lt_of_le (h.asc c hc) (by decide)
  have := h.l
  omega
/-- how many signs are in a list of unlike signs, counted one by one -/
theorem count_sum (l : List Nat) : ∀ (L : List Nat), L.Nodup → (L.map fun c => ((l.count c : Nat) : Int)).sum = ((l.filter (· ∈ L)).length : Nat)
  | [], _ => by
    have : l.filter (· ∈ ([] : List Nat)) = [] := List.filter_eq_nil_iff.mpr (by simp)
    rw [this]; rfl
  | c :: L, h => by
    rw [List.nodup_cons] at h
    rw [List.map_cons, List.sum_cons, count_sum l L h.2]
    have : ∀ l : List Nat, (l.filter (· ∈ c :: L)).length = l.count c + (l.filter (· ∈ L)).length := by
      intro l
      induction l with
      | nil => rfl
      | cons x l ih =>
        by_cases hx : x = c
        · subst hx
          rw [List.filter_cons_of_pos (by simp), List.filter_cons_of_neg (by simpa using h.1), List.count_cons_self, List.length_cons, ih]
          omega
        · by_cases hL : x ∈ L
          · rw [List.filter_cons_of_pos (by simp [hL]), List.filter_cons_of_pos (by simpa using hL), List.count_cons_of_ne hx, List.length_cons, List.length_cons, ih]
            omega
          · rw [List.filter_cons_of_neg (by simp [hL, hx]), List.filter_cons_of_neg (by simpa using hL), List.count_cons_of_ne hx, ih]
    rw [this]
    omega
theorem cnt_count (c : Nat) : ∀ l : List Nat, PyProof.Rows.cnt c l = ((l.count c : Nat) : Int)
  | [] => rfl
  | x :: l => by
    show (if same (.str ⟨#[x]⟩) (.str ⟨#[c]⟩) then (1 : Int) else 0) + PyProof.Rows.cnt c l = _
    rw [cnt_count c l]
    by_cases h : x = c
    · subst h
      rw [List.count_cons_self, if_pos (by simp [same])]
      omega
    · rw [List.count_cons_of_ne h, if_neg (by simp [same, h])]
      omega
theorem count_z (z : Str) (c : Nat) : Txt.count z ⟨#[c]⟩ = ((z.cps.toList.count c : Nat) : Int) := by rw [count_cnt, cnt_count]
end PL
set_option Elab.async false
set_option linter.all false
set_option autoImplicit false
set_option maxRecDepth 100000
set_option maxHeartbeats 4000000
/-! PLp: loops by an invariant, in the form that simp leaves. -/
namespace PL
open PySem PySem.Spec PyProof.Rows L2
theorem forLT_inv {g : DG} {b : DS} {D : DEnds} {items : List Res} {e : DEnv} {t : Tag (g, b, D)} (I : Nat → DEnv → Prop) (h0 : I 0 e)
    (st : ∀ i d e (K : DEnv → Prop), items[i]? = some d → I i e → (∀ e2, I (i + 1) e2 → K e2) → g d e fun e1 => b { D with nx := K, ct := K, bk := D.nx } e1)
    (h : ∀ e, I items.length e → D.nx e) : forLT g b D items e t := forL_inv I items e h0 st h
theorem lcLT_inv {g : DG} {t : DT} {f : DE} {vs : List Nat} {sl : DEnv → Prop} {Q : List D → DEnv → Prop} {items : List Res} {acc : List D} {e : DEnv} {tg : Tag (g, t, f, vs, sl, Q)} (I : Nat → List D → DEnv → Prop) (h0 : I 0 acc e)
    (st : ∀ i d acc e (K : List D → DEnv → Prop), items[i]? = some d → I i acc e → (∀ acc' e', I (i + 1) acc' e' → K acc' e') →
      g d e fun e1 => t e1 fun k e2 => if k = true then f e2 fun r e3 => bnd (frz e3 r) fun p => K (acc ++ [p.1]) (wipeE p.2 vs) else K acc (wipeE e2 vs))
    (h : ∀ acc e, I items.length acc e → Q acc e) (hs : ∀ i acc e, I i acc e → sl e := by intros; trivial) : lcLT g t f vs sl Q items acc e tg := by
  refine lcL_inv I items acc e h0 hs (fun i d acc e K hd hi hk => ?_) h
  have := st i d acc e K hd hi hk
  simp only [ex2p_bnd]
  exact this
def okS : Option (Kd × D) → Bool
  | some (.io, _) => false
  | _ => true
def okO : Option (Option (Kd × D)) → Bool
  | some x => okS x
  | none => false
theorem okSlot_eq {e : DEnv} {i : Nat} : okSlot e i = okO e[i]? := by
  unfold okSlot
  cases e[i]? with
  | none => rfl
  | some x =>
    cases x with
    | none => rfl
    | some p => obtain ⟨k, d⟩ := p; cases k <;> rfl
theorem okO_some {x : Option (Kd × D)} : okO (some x) = okS x := rfl
theorem okS_fz {d : D} : okS (some (.fz, d)) = true := rfl
theorem okS_ow {d : D} : okS (some (.ow, d)) = true := rfl
theorem okS_sc {d : D} : okS (some (.sc, d)) = true := rfl
theorem okS_none : okS none = true := rfl
theorem gIs_bb {neg : Bool} {a b : Bool} {Q : Out → Prop} : gIs neg (.bool a) (.bool b) Q = Q (.val (.bool (if neg then !decide (a = b) else decide (a = b)))) := rfl
theorem gIs_none {neg : Bool} {d : D} {Q : Out → Prop} : gIs neg d .none Q = Q (.val (.bool (if neg then !(PyData.eqv d .none) else PyData.eqv d .none))) := by cases d <;> rfl
theorem eqv_int {a b : Int} : PyData.eqv (.int a) (.int b) = (a == b) := by simp [PyData.eqv]
theorem eqv_str {a b : Str} : PyData.eqv (.str a) (.str b) = (a == b) := by simp [PyData.eqv]
theorem eqv_bool {a b : Bool} : PyData.eqv (.bool a) (.bool b) = (a == b) := by simp [PyData.eqv]
theorem eqOk_int {a b : Int} : eqOk (.int a) (.int b) = True := rfl
theorem eqOk_str {a b : Str} : eqOk (.str a) (.str b) = True := rfl
theorem eqOk_bool {a b : Bool} : eqOk (.bool a) (.bool b) = True := rfl
theorem eqOk_ns {a : Str} : eqOk .none (.str a) = True := rfl
theorem eqOk_sn {a : Str} : eqOk (.str a) .none = True := rfl
theorem eqOk_nn : eqOk .none .none = True := rfl
theorem eqOk_ni {a : Int} : eqOk .none (.int a) = True := rfl
theorem eqOk_in {a : Int} : eqOk (.int a) .none = True := rfl
theorem eqOk_si {a : Str} {b : Int} : eqOk (.str a) (.int b) = True := rfl
theorem eqOk_is {a : Str} {b : Int} : eqOk (.int b) (.str a) = True := rfl
theorem eqv_ns {a : Str} : PyData.eqv .none (.str a) = false := by simp [PyData.eqv]
theorem eqv_sn {a : Str} : PyData.eqv (.str a) .none = false := by simp [PyData.eqv]
theorem eqv_nn : PyData.eqv .none .none = true := by simp [PyData.eqv]
theorem eqv_ni {a : Int} : PyData.eqv .none (.int a) = false := by simp [PyData.eqv]
theorem eqv_in {a : Int} : PyData.eqv (.int a) .none = false := by simp [PyData.eqv]
theorem eqv_si {a : Str} {b : Int} : PyData.eqv (.str a) (.int b) = false := by simp [PyData.eqv]
theorem eqv_is {a : Str} {b : Int} : PyData.eqv (.int b) (.str a) = false := by simp [PyData.eqv]
theorem cut_head {z : Str} {k : Int} (h0 : 0 ≤ k) : (cutS z none (some k)).cps.toList = z.cps.toList.take k.toNat := by
  unfold cutS HT.sIx
  dsimp only
  rw [if_neg (by omega)]
  show ((z.cps.toList.drop 0).take (min k.toNat z.length - 0)).toArray.toList = _
  rw [List.toList_toArray, List.drop_zero, Nat.sub_zero, slen]
  by_cases h : k.toNat ≤ z.cps.toList.length
  · rw [Nat.min_eq_left h]
  · rw [Nat.min_eq_right (by omega), List.take_length, List.take_of_length_le (by omega)]
theorem cut_tail {z : Str} {k : Int} (h0 : 0 ≤ k) : (cutS z (some k) none).cps.toList = z.cps.toList.drop k.toNat := by
  unfold cutS HT.sIx
  dsimp only
  rw [if_neg (by omega)]
  show ((z.cps.toList.drop (min k.toNat z.length)).take (z.length - min k.toNat z.length)).toArray.toList = _
  rw [List.toList_toArray, slen]
  by_cases h : k.toNat ≤ z.cps.toList.length
  · rw [Nat.min_eq_left h, List.take_of_length_le (by rw [List.length_drop]; omega)]
  · rw [Nat.min_eq_right (by omega), List.drop_length, List.drop_of_length_le (by omega)]; simp
theorem gIn_one {neg : Bool} {c : Nat} {z : Str} {Q : Out → Prop} : gIn neg (.str ⟨#[c]⟩) (.str z) Q = Q (.val (.bool (if neg then !decide (c ∈ z.cps.toList) else decide (c ∈ z.cps.toList)))) := by
  apply propext
  constructor
  · rintro ⟨c', h, w⟩
    injection h with h
    injection h with h
    have : c = c' := by simpa using h
    subst this
    exact w
  · intro w; exact ⟨c, rfl, w⟩
end PL
set_option Elab.async false
set_option linter.all false
set_option autoImplicit false
set_option maxRecDepth 100000
set_option maxHeartbeats 4000000
/-! PLq: dicts over data. -/
namespace PL
open PySem PySem.Spec PyProof.Rows L2

section
variable {X : Cx} {pins : List (Addr × Obj)} {σ : L2.St} {H : Hp} {s : Shared} {a b : Addr} {y v d : V} {u r : Value} {o : Option V} {A : Around} {E : Value → Shared → Prop}
/-- a tuple of ints and texts, wherever it stands, is a key -/
theorem key_ofS {ks : List Key} (I : Inv X pins σ H s) (h : SqT X.K H b (ks.map kV)) : (tupleKind (mixKind X.prog X.w)).is s.heap ks b := by
  obtain ⟨its, rv, ⟨ob, e1, e2, n, e3⟩, _⟩ := I.tuple h
  exact ⟨ob, its.toArray, n, e1, e2, e3, by simpa using items_are rv⟩
/-- what the dict at a holds at y; a tuple's key may stand anywhere -/
def DGk (K : PySem.W.Frag) (H : Hp) (a : Addr) (y : V) (r : Option V) : Prop :=
  (∃ kvs k, Rd H a (.dK kvs) ∧ y = kV k ∧ r = valV kvs k) ∨ (∃ kvs k b, Rd H a (.dT kvs) ∧ y = .ref b ∧ SqT K H b (k.map kV) ∧ r = valV kvs k)
theorem DGk.isD {K : PySem.W.Frag} (g : DGk K H a y o) : IsD H a := by
  rcases g with ⟨kvs, k, e, _⟩ | ⟨kvs, k, b, e, _⟩
  · exact .inl ⟨_, e⟩
  · exact .inr ⟨_, e⟩
theorem dg_item {Q : Value → Shared → Prop} (hu : A.units + 1 < cLine) (I : Inv X pins σ H s) (g : DGk X.K H a y (some v)) (ry : RelV y u) (h : ∀ w' s', Inv X pins σ H s' → RelV v w' → Q w' s') :
    wpAny (model X.prog X.w) A (getItem (.ref a) u) Q E s := by
  rcases g with ⟨kvs, k, e, ey, l⟩ | ⟨kvs, k, b, e, ey, eb, l⟩
  · exact d_getItem hu I (.inl ⟨kvs, k, e, ey, l⟩) ry h
  · subst ey
    have hv : u = Value.ref b := ry
    subst hv
    obtain ⟨_, _, xs, rel, dd⟩ := dt_rd I.hok e
    have rl := rel.val k
    rw [← l] at rl
    obtain ⟨w', hw, rw'⟩ := RelO.some_of rl
    obtain ⟨p, hp, hp2⟩ := Option.map_eq_some_iff.mp hw
    apply wpAny_getItem_heap (tupleKind_room_in1 hu) (key_ofS I eb) dd hp
    rw [hp2]
    exact h w' _ (I.tok _) rw'
theorem dg_in {Q : Value → Shared → Prop} (hu : A.units + 1 < cLine) (I : Inv X pins σ H s) (g : DGk X.K H a y o) (ry : RelV y u) (h : ∀ s', Inv X pins σ H s' → Q (.bool o.isSome) s') :
    wpAny (model X.prog X.w) A (compareOp .In u (.ref a)) Q E s := by
  rcases g with ⟨kvs, k, e, ey, l⟩ | ⟨kvs, k, b, e, ey, eb, l⟩
  · exact d_in hu I (.inl ⟨kvs, k, e, ey, l⟩) ry h
  · subst ey
    have hv : u = Value.ref b := ry
    subst hv
    obtain ⟨_, hd, xs, rel, dd⟩ := dt_rd I.hok e
    apply wpAny_in_heap (tupleKind_room_in1 hu) (key_ofS I eb) hd dd
    have q := (rel.val k).isSome_eq
    rw [Option.isSome_map, ← l] at q
    rw [← q]
    exact h _ (I.tok _)
theorem dg_notIn {Q : Value → Shared → Prop} (hu : A.units + 1 < cLine) (I : Inv X pins σ H s) (g : DGk X.K H a y o) (ry : RelV y u) (h : ∀ s', Inv X pins σ H s' → Q (.bool (!o.isSome)) s') :
    wpAny (model X.prog X.w) A (compareOp .NotIn u (.ref a)) Q E s := by
  rcases g with ⟨kvs, k, e, ey, l⟩ | ⟨kvs, k, b, e, ey, eb, l⟩
  · exact d_notIn hu I (.inl ⟨kvs, k, e, ey, l⟩) ry h
  · subst ey
    have hv : u = Value.ref b := ry
    subst hv
    obtain ⟨_, hd, xs, rel, dd⟩ := dt_rd I.hok e
    apply wpAny_notIn_heap (tupleKind_room_in1 hu) (key_ofS I eb) hd dd
    have q := (rel.val k).isSome_eq
    rw [Option.isSome_map, ← l] at q
    rw [← q]
    exact h _ (I.tok _)
theorem dg_get1 {Q : Value → Shared → Prop} (hu : A.units + 1 < cLine) (I : Inv X pins σ H s) (g : DGk X.K H a y o) (ry : RelV y u) (h : ∀ w' s', Inv X pins σ H s' → RelV (o.getD .non) w' → Q w' s') :
    wpAny (model X.prog X.w) A (call (.builtin "dict.get") [.ref a, u]) Q E s := by
  rcases g with ⟨kvs, k, e, ey, l⟩ | ⟨kvs, k, b, e, ey, eb, l⟩
  · exact d_get1 hu I (.inl ⟨kvs, k, e, ey, l⟩) ry h
  · subst ey
    have hv : u = Value.ref b := ry
    subst hv
    obtain ⟨_, hd, xs, rel, dd⟩ := dt_rd I.hok e
    apply call_meetsIn PySem.F.slot_dict_get dd.typeIs PySem.F.entry_dict_get (PySem.F.args_dict_get_2 _ _) (meetsH_dict_get (tupleKind (mixKind X.prog X.w)) a b hd)
    refine ⟨tupleKind_room_in1 hu, k, xs, key_ofS I eb, dd, h _ _ (I.tok _) ?_⟩
    rw [l]
    exact (rel.val k).getD (d := .non) (d' := .none) rfl
theorem dg_get2 {Q : Value → Shared → Prop} (hu : A.units + 1 < cLine) (I : Inv X pins σ H s) (g : DGk X.K H a y o) (ry : RelV y u) (rd : RelV d r) (h : ∀ w' s', Inv X pins σ H s' → RelV (o.getD d) w' → Q w' s') :
    wpAny (model X.prog X.w) A (call (.builtin "dict.get") [.ref a, u, r]) Q E s := by
  rcases g with ⟨kvs, k, e, ey, l⟩ | ⟨kvs, k, b, e, ey, eb, l⟩
  · exact d_get2 hu I (.inl ⟨kvs, k, e, ey, l⟩) ry rd h
  · subst ey
    have hv : u = Value.ref b := ry
    subst hv
    obtain ⟨_, hd, xs, rel, dd⟩ := dt_rd I.hok e
    apply call_meetsIn PySem.F.slot_dict_get dd.typeIs PySem.F.entry_dict_get (PySem.F.args_dict_get_3 _ _ _) (meetsH_dict_get_default (tupleKind (mixKind X.prog X.w)) a b hd r)
    refine ⟨tupleKind_room_in1 hu, k, xs, key_ofS I eb, dd, h _ _ (I.tok _) ?_⟩
    rw [l]
    exact (rel.val k).getD rd
end
section
variable {X : Cx}
/-! ### d[k], k in d -/
def rIxD (K : PySem.W.Frag) : R2 := fun x y H Q => ∃ a v, x = .ref a ∧ DGk K H a y (some v) ∧ Q v H
theorem ix_dict (hu : X.A.units + 1 < cLine) : IxR X (rIxD X.K) := by
  intro value slice pins s σ H x y v u Q I rx ry h hs
  obtain ⟨a, z, rfl, g, q⟩ := h
  cases rx
  exact tail_any (isD_at I g.isD).1 PySem.F.slot_dict_getitem.lookup (dg_item hu I g ry fun w' s' I' rw' => ⟨z, H, I', rw', q⟩) hs
def rInD (K : PySem.W.Frag) (neg : Bool) : R2 := fun y x H Q => ∃ a o, x = .ref a ∧ DGk K H a y o ∧ Q (.bl (if neg then !o.isSome else o.isSome)) H
theorem op_inD (hu : X.A.units + 1 < cLine) : OpR X (compareOp .In) (rInD X.K false) := by
  intro pins s σ H y x v u Q I ry rx h
  obtain ⟨a, o, rfl, g, q⟩ := h
  cases rx
  exact dg_in hu I g ry fun s' I' => ⟨.bl o.isSome, H, I', rfl, q⟩
theorem op_notInD (hu : X.A.units + 1 < cLine) : OpR X (compareOp .NotIn) (rInD X.K true) := by
  intro pins s σ H y x v u Q I ry rx h
  obtain ⟨a, o, rfl, g, q⟩ := h
  cases rx
  exact dg_notIn hu I g ry fun s' I' => ⟨.bl (!o.isSome), H, I', rfl, q⟩
end
/-! ### dicts as data -/
open Classical in
noncomputable def lookD (kds : List (D × D)) (k : D) : Option D := (kds.find? fun p => decide (p.1 = k)).map (·.2)
open Classical in
noncomputable def putD (kds : List (D × D)) (k v : D) : List (D × D) := if (kds.any fun p => decide (p.1 = k)) = true then kds.map (fun p => if p.1 = k then (p.1, v) else p) else kds ++ [(k, v)]
open Classical in
noncomputable def dropD (kds : List (D × D)) (k : D) : List (D × D) := kds.filter fun p => decide (p.1 ≠ k)
theorem lookD_nil {k : D} : lookD [] k = none := rfl
theorem lookD_eq {k v : D} {r : List (D × D)} : lookD ((k, v) :: r) k = some v := by simp [lookD]
theorem lookD_ne {k k' v : D} {r : List (D × D)} (h : k' ≠ k) : lookD ((k', v) :: r) k = lookD r k := by simp [lookD, h]
/-- is this a key; of which kind -/
def isT : D → Bool
  | .tuple ds => ds.all isK
  | _ => false
theorem isK_kD {d : D} (h : isK d = true) : ∃ k, d = kD k := by
  cases d with
  | int i => exact ⟨.inl i, rfl⟩
  | str i => exact ⟨.inr i, rfl⟩
  | _ => cases h
theorem isT_tD {d : D} (h : isT d = true) : ∃ k, d = tD k := by
  cases d with
  | tuple ds =>
    have h : ds.all isK = true := h
    have : ∀ l : List D, l.all isK = true → ∃ k : List Key, l = k.map kD := by
      intro l
      induction l with
      | nil => intro _; exact ⟨[], rfl⟩
      | cons x l ih =>
        intro h
        rw [List.all_cons, Bool.and_eq_true] at h
        obtain ⟨k, rfl⟩ := isK_kD h.1
        obtain ⟨ks, rfl⟩ := ih h.2
        exact ⟨k :: ks, rfl⟩
    obtain ⟨k, rfl⟩ := this ds h
    exact ⟨k, rfl⟩
  | _ => cases h
theorem kD_inj {a b : Key} (h : kD a = kD b) : a = b := by
  cases a <;> cases b <;> simp [kD] at h <;> rw [h]
theorem tD_inj {a b : List Key} (h : tD a = tD b) : a = b := by
  unfold tD at h
  injection h with h
  induction a generalizing b with
  | nil => cases b with
    | nil => rfl
    | cons y b => simp at h
  | cons x a ih => cases b with
    | nil => simp at h
    | cons y b =>
      rw [List.map_cons, List.map_cons] at h
      injection h with h1 h2
      rw [kD_inj h1, ih h2]
theorem fz_kD {K : PySem.W.Frag} {M : Hp} {k : Key} {v : V} : Fz K M (kD k) v ↔ v = kV k := by
  cases k with
  | inl i => exact fzi
  | inr z => exact fzs
theorem fz_kDs {K : PySem.W.Frag} {M : Hp} : ∀ {k : List Key} {vs : List V}, FzL K M (k.map kD) vs → vs = k.map kV
  | [], vs, h => by simp only [List.map_nil, FzL] at h; exact h
  | k :: ks, vs, h => by
    simp only [List.map_cons, FzL] at h
    obtain ⟨v, r, rfl, h1, h2⟩ := h
    rw [fz_kD.mp h1, fz_kDs h2]; rfl
/-- two tables of the same keys -/
theorem look_tab {κ : Type} [DecidableEq κ] {K : PySem.W.Frag} {M : Hp} (j : κ → D) (hj : ∀ a b, j a = j b → a = b) : ∀ {kds : List (D × D)} {kvs : List (κ × V)}, kds.map Prod.fst = kvs.map (fun p => j p.1) → FzL K M (kds.map Prod.snd) (kvs.map Prod.snd) → ∀ k : κ,
    match lookD kds (j k), valV kvs k with
    | some d, some v => Fz K M d v
    | none, none => True
    | _, _ => False
  | [], [], _, _, k => by simp [lookD, valV]
  | p :: kds, [], h, _, k => by simp at h
  | [], q :: kvs, h, _, k => by simp at h
  | p :: kds, q :: kvs, h, f, k => by
    rw [List.map_cons, List.map_cons] at h
    injection h with h1 h2
    rw [List.map_cons, List.map_cons] at f
    obtain ⟨f1, f2⟩ := FzL.cons_iff.mp f
    have ih := look_tab j hj h2 f2 k
    obtain ⟨pk, pd⟩ := p
    obtain ⟨qk, qv⟩ := q
    dsimp only at h1 f1
    subst h1
    by_cases e : qk = k
    · subst e
      rw [lookD_eq, valV_pos (p := (qk, qv)) rfl]
      exact f1
    · rw [lookD_ne (fun z => e (hj _ _ z)), valV_neg (p := (qk, qv)) e]
      exact ih
/-- a dict with tuples for keys bears a mark ahead of its rows: (None, None) -/
def isTd : List (D × D) → Bool
  | (.none, _) :: _ => true
  | _ => false
def keyOk (kds : List (D × D)) (k : D) : Bool := if isTd kds then isT k else isK k
theorem kD_none {k : Key} : kD k ≠ .none := by cases k <;> exact fun z => by cases z
theorem td_of {kds : List (D × D)} {l : List D} (h : kds.map Prod.fst = .none :: l) : isTd kds = true ∧ ∃ v r, kds = (.none, v) :: r ∧ r.map Prod.fst = l := by
  match kds, h with
  | (k, v) :: r, h =>
    rw [List.map_cons] at h
    injection h with h1 h2
    dsimp only at h1
    subst h1
    exact ⟨rfl, v, r, rfl, h2⟩
theorem not_td {kds : List (D × D)} {l : List Key} (h : kds.map Prod.fst = l.map kD) : isTd kds = false := by
  match kds, l, h with
  | [], _, _ => rfl
  | (k, v) :: r, [], h => simp at h
  | (k, v) :: r, j :: l, h =>
    rw [List.map_cons, List.map_cons] at h
    injection h with h1 h2
    dsimp only at h1
    subst h1
    cases j <;> rfl
/-- what a lookup gives, in both worlds -/
def LkR (K : PySem.W.Frag) (M : Hp) (d : Option D) (v : Option V) : Prop := match d, v with
  | some d, some v => Fz K M d v
  | none, none => True
  | _, _ => False
theorem vw_key {K : PySem.W.Frag} {M H : Hp} {k : D} {y : V} (h : isK k = true ∨ isT k = true) (v : Vw K M H k y) : Fz K M k y := by
  rcases h with h | h <;> cases k <;> first | exact v | cases h
theorem vw_dg {K : PySem.W.Frag} {M H : Hp} {kds : List (D × D)} {k : D} {x y : V} (ex : Ex M H) (v : Vw K M H (.dict kds) x) (hk : keyOk kds k = true) (f : Vw K M H k y) : ∃ a o, x = .ref a ∧ DGk K H a y o ∧ LkR K M (lookD kds k) o := by
  obtain ⟨a, rfl, h⟩ := v
  unfold keyOk at hk
  rcases h with ⟨kvs, rd, q, fl⟩ | ⟨kvs, rd, q, fl⟩
  · have q' : kds.map Prod.fst = (kvs.map Prod.fst).map kD := by rw [q, List.map_map]; rfl
    rw [not_td q'] at hk
    have hk : isK k = true := by simpa using hk
    have f := vw_key (.inl hk) f
    obtain ⟨j, rfl⟩ := isK_kD hk
    rw [fz_kD] at f
    exact ⟨a, valV kvs j, rfl, .inl ⟨kvs, j, rd, f, rfl⟩, look_tab kD (fun _ _ => kD_inj) q fl j⟩
  · obtain ⟨t, v0, r, rfl, q2⟩ := td_of q
    rw [t] at hk
    have hk : isT k = true := by simpa using hk
    have f := vw_key (.inr hk) f
    obtain ⟨j, rfl⟩ := isT_tD hk
    unfold tD at f
    simp only [Fz] at f
    obtain ⟨b, us, rfl, sq, fu⟩ := f
    have hu := fz_kDs fu
    subst hu
    rw [List.map_cons] at fl
    obtain ⟨_, fl2⟩ := FzL.cons_iff.mp fl
    refine ⟨a, valV kvs j, rfl, .inr ⟨kvs, j, b, rd, rfl, ex.t sq, rfl⟩, ?_⟩
    rw [lookD_ne (by intro z; cases z)]
    exact look_tab tD (fun _ _ => tD_inj) q2 fl2 j
section
variable {X : Cx}
/-- x[i]: of a list, a tuple, a text, a dict -/
def gIxA (d k : D) (Q : Out → Prop) : Prop := match d with
  | .dict kds => keyOk kds k = true ∧ ∃ v, lookD kds k = some v ∧ Q (.val v)
  | _ => gIx d k Q
abbrev rIxA (K : PySem.W.Frag) : R2 := fun x y H Q => rIx K x y H Q ∨ rIxD K x y H Q
theorem ix_all (hu : X.A.units + 1 < cLine) : IxR X (rIxA X.K) := ix_seq.or (ix_dict hu)
theorem g_ixA {K : PySem.W.Frag} : Op2 K (rIxA K) gIxA where
  run := fun M H d k x y Q ex v1 v2 w => by
    cases d with
    | dict kds =>
      obtain ⟨hk, v, hv, w⟩ := w
      obtain ⟨a, o, rfl, g, l⟩ := vw_dg ex v1 hk v2
      rw [hv] at l
      cases o with
      | none => exact l.elim
      | some z => exact .inr ⟨a, z, rfl, g, w z l⟩
    | list ds => exact .inl (g_ix.run M H _ k x y Q ex v1 v2 w)
    | tuple ds => exact .inl (g_ix.run M H _ k x y Q ex v1 v2 w)
    | str ds => exact .inl (g_ix.run M H _ k x y Q ex v1 v2 w)
    | none => exact .inl (g_ix.run M H _ k x y Q ex v1 v2 w)
    | bool ds => exact .inl (g_ix.run M H _ k x y Q ex v1 v2 w)
    | int ds => exact .inl (g_ix.run M H _ k x y Q ex v1 v2 w)
  mono := fun d k Q Q' h w => by
    cases d with
    | dict kds => obtain ⟨hk, v, hv, w⟩ := w; exact ⟨hk, v, hv, h _ w⟩
    | list ds => exact g_ix.mono (K := K) (.list ds) k Q Q' h w
    | tuple ds => exact g_ix.mono (K := K) (.tuple ds) k Q Q' h w
    | str ds => exact g_ix.mono (K := K) (.str ds) k Q Q' h w
    | none => exact g_ix.mono (K := K) .none k Q Q' h w
    | bool ds => exact g_ix.mono (K := K) (.bool ds) k Q Q' h w
    | int ds => exact g_ix.mono (K := K) (.int ds) k Q Q' h w
/-- k in d -/
def gInA (neg : Bool) (k d : D) (Q : Out → Prop) : Prop := match d with
  | .dict kds => keyOk kds k = true ∧ Q (.val (.bool (if neg then !(lookD kds k).isSome else (lookD kds k).isSome)))
  | _ => gIn neg k d Q
abbrev rInAA (K : PySem.W.Frag) (neg : Bool) : R2 := fun x y H Q => rInA K neg x y H Q ∨ rInD K neg x y H Q
theorem op_inAA (hu : X.A.units + 1 < cLine) : OpR X (compareOp .In) (rInAA X.K false) := op_inA.or (op_inD hu)
theorem op_notInAA (hu : X.A.units + 1 < cLine) : OpR X (compareOp .NotIn) (rInAA X.K true) := op_notInA.or (op_notInD hu)
theorem lk_some {K : PySem.W.Frag} {M : Hp} {d : Option D} {v : Option V} (h : LkR K M d v) : d.isSome = v.isSome := by
  cases d <;> cases v <;> first | rfl | exact h.elim
theorem g_inA {K : PySem.W.Frag} (neg : Bool) : Op2 K (rInAA K neg) (gInA neg) where
  run := fun M H k d y x Q ex v2 v1 w => by
    cases d with
    | dict kds =>
      obtain ⟨hk, w⟩ := w
      obtain ⟨a, o, rfl, g, l⟩ := vw_dg ex v1 hk v2
      rw [lk_some l] at w
      exact .inr ⟨a, o, rfl, g, w _ (fzb.mpr rfl)⟩
    | list ds => exact .inl ((g_in neg).run M H k _ y x Q ex v2 v1 w)
    | tuple ds => exact .inl ((g_in neg).run M H k _ y x Q ex v2 v1 w)
    | str ds => exact .inl ((g_in neg).run M H k _ y x Q ex v2 v1 w)
    | none => exact .inl ((g_in neg).run M H k _ y x Q ex v2 v1 w)
    | bool ds => exact .inl ((g_in neg).run M H k _ y x Q ex v2 v1 w)
    | int ds => exact .inl ((g_in neg).run M H k _ y x Q ex v2 v1 w)
  mono := fun k d Q Q' h w => by
    cases d with
    | dict kds => exact ⟨w.1, h _ w.2⟩
    | list ds => exact (g_in (K := K) neg).mono k (.list ds) Q Q' h w
    | tuple ds => exact (g_in (K := K) neg).mono k (.tuple ds) Q Q' h w
    | str ds => exact (g_in (K := K) neg).mono k (.str ds) Q Q' h w
    | none => exact (g_in (K := K) neg).mono k .none Q Q' h w
    | bool ds => exact (g_in (K := K) neg).mono k (.bool ds) Q Q' h w
    | int ds => exact (g_in (K := K) neg).mono k (.int ds) Q Q' h w
/-! ### d.get(k), d.get(k, x) -/
section
variable {o e f : Expr} {apos cpos : Pos} {td ty tx : TE} {fo fk fx : DE}
def tG1 (K : PySem.W.Frag) (td ty : TE) : TE := fun σ H Q => td σ H fun x H1 => ∃ a, x = .ref a ∧ IsD H1 a ∧ ty σ H1 fun y H2 => ∃ o, DGk K H2 a y o ∧ Q (o.getD .non) H2
def tG2 (K : PySem.W.Frag) (td ty tx : TE) : TE := fun σ H Q => td σ H fun x H1 => ∃ a, x = .ref a ∧ IsD H1 a ∧ ty σ H1 fun y H2 => tx σ H2 fun z H3 => ∃ o, DGk K H3 a y o ∧ Q (o.getD z) H3
theorem pe_g1 (hu : X.A.units + 1 < cLine) (ho : PE X o td) (he : PE X e ty) (m : M1 X o "get" apos e cpos) : PE X (.Call (.Attribute o "get" apos) [e] [] cpos) (tG1 X.K td ty) := by
  constructor
  intro pins s σ H Q I h
  apply wpAny_Call_method m.base m.few m.line PySem.F.plainAttrs_dict PySem.F.slot_dict_get PySem.F.type_dict_get
  apply thn (ho.run pins s σ H _ I h)
  rintro u s1 ⟨x, H1, I1, rx, a, rfl, d, q1⟩
  have hu' : u = Value.ref a := rx
  subst hu'
  obtain ⟨t1, t2, _⟩ := isD_at I1 d
  refine ⟨t1, t2, ?_⟩
  rw [m.trees]
  apply Calls.callWith_builtin rfl
  apply Calls.evalArgs_plain
  apply Calls.spliced_cons
  apply thn (he.run pins s1 σ H1 _ I1 q1)
  rintro iv s2 ⟨y, H2, I2, ry, ov, g, q2⟩
  exact Calls.spliced_nil (dg_get1 hu I2 g ry fun w' s3 I3 rw' => ⟨_, H2, I3, rw', q2⟩)
theorem pe_g2 (hu : X.A.units + 1 < cLine) (ho : PE X o td) (he : PE X e ty) (hf : PE X f tx) (m : M2 X o "get" apos e f cpos) : PE X (.Call (.Attribute o "get" apos) [e, f] [] cpos) (tG2 X.K td ty tx) := by
  constructor
  intro pins s σ H Q I h
  apply wpAny_Call_method m.base m.few m.line PySem.F.plainAttrs_dict PySem.F.slot_dict_get PySem.F.type_dict_get
  apply thn (ho.run pins s σ H _ I h)
  rintro u s1 ⟨x, H1, I1, rx, a, rfl, d, q1⟩
  have hu' : u = Value.ref a := rx
  subst hu'
  obtain ⟨t1, t2, _⟩ := isD_at I1 d
  refine ⟨t1, t2, ?_⟩
  rw [m.trees]
  apply Calls.callWith_builtin rfl
  apply Calls.evalArgs_plain
  apply Calls.spliced_cons
  apply thn (he.run pins s1 σ H1 _ I1 q1)
  rintro iv s2 ⟨y, H2, I2, ry, q2⟩
  apply Calls.spliced_cons
  apply thn (hf.run pins s2 σ H2 _ I2 q2)
  rintro fv s3 ⟨z, H3, I3, rz, ov, g, q3⟩
  exact Calls.spliced_nil (dg_get2 hu I3 g ry rz fun w' s4 I4 rw' => ⟨_, H3, I4, rw', q3⟩)
def dicOf : D → Option (List (D × D))
  | .dict kds => some kds
  | _ => none
def dicAt (e : DEnv) (r : Res) : Option (List (D × D)) := (look e r).bind dicOf
theorem dic_at {e : DEnv} {r : Res} {kds : List (D × D)} (h : dicAt e r = some kds) : look e r = some (.dict kds) := by
  unfold dicAt at h
  cases z : look e r with
  | none => rw [z] at h; cases h
  | some d =>
    rw [z] at h
    cases d <;> first | (cases h; done) | skip
    rename_i l
    have h : some l = some kds := h
    cases h; rfl
theorem vw_isD {K : PySem.W.Frag} {M H : Hp} {kds : List (D × D)} {x : V} (v : Vw K M H (.dict kds) x) : ∃ a, x = .ref a ∧ IsD H a := by
  obtain ⟨a, rfl, h⟩ := v
  rcases h with ⟨kvs, rd, _⟩ | ⟨kvs, rd, _⟩
  · exact ⟨a, rfl, .inl ⟨_, rd⟩⟩
  · exact ⟨a, rfl, .inr ⟨_, rd⟩⟩
def wGet1 (fo fk : DE) : DE := fun e Q => fo e fun r e0 => (∃ k0, dicAt e0 r = some k0) ∧ fk e0 fun rk e1 => ∃ kds k, dicAt e1 r = some kds ∧ look e1 rk = some k ∧ keyOk kds k = true ∧ Q (.fz ((lookD kds k).getD .none)) e1
def wGet2 (fo fk fx : DE) : DE := fun e Q => fo e fun r e0 => (∃ k0, dicAt e0 r = some k0) ∧ fk e0 fun rk e1 => fx e1 fun rx e2 => ∃ dx e3 kds k, frz e2 rx = some (dx, e3) ∧ dicAt e3 r = some kds ∧ look e3 rk = some k ∧ keyOk kds k = true ∧ Q (.fz ((lookD kds k).getD dx)) e3
theorem lk_getD {K : PySem.W.Frag} {M : Hp} {d : Option D} {v : Option V} {d0 : D} {v0 : V} (h : LkR K M d v) (h0 : Fz K M d0 v0) : Fz K M (d.getD d0) (v.getD v0) := by
  cases d <;> cases v <;> first | exact h0 | exact h | exact h.elim
theorem fe_get1 (hu : X.A.units + 1 < cLine) (ho : FE X o fo) (he : FE X e fk) (m : M1 X o "get" apos e cpos) : FE X (.Call (.Attribute o "get" apos) [e] [] cpos) (wGet1 fo fk) := by
  refine ⟨pe_imp (pe_g1 hu ho.pe he.pe m) ?_, fun e Q Q' h w => ho.mono _ _ _ (fun r e0 ⟨k0, w1⟩ => ⟨k0, he.mono _ _ _ (fun rk e1 ⟨kds, k, h1, h2, h3, w2⟩ => ⟨kds, k, h1, h2, h3, h _ _ w2⟩) w1⟩) w⟩
  rintro σ H Q ⟨P, B, ios, e, T, r, w⟩
  refine ⟨P, B, ios, e, T, r, ho.mono _ _ _ (fun rr e1 w1 x H1 h1 => ?_) w⟩
  obtain ⟨⟨k0, hk0⟩, w1⟩ := w1
  obtain ⟨M, h1⟩ := h1
  obtain ⟨a, rfl, isd⟩ := vw_isD (h1.view (x := rr) (v := x) (by simp) (dic_at hk0))
  refine ⟨a, rfl, isd, P, B, ios, e1, _, ⟨M, h1⟩, he.mono _ _ _ (fun rk e2 w2 y H2 h2 => ?_) w1⟩
  obtain ⟨kds, k, d1, d2, d3, w2⟩ := w2
  obtain ⟨M2, h2⟩ := h2
  obtain ⟨a', ov, ha, g, l⟩ := vw_dg h2.mh (h2.view (x := rr) (v := .ref a) (by simp) (dic_at d1)) d3 (h2.view (x := rk) (v := y) (by simp) d2)
  cases ha
  refine ⟨ov, g, w2 _ _ ⟨M2, ?_⟩⟩
  exact RepM.push_fz (RepM.popN (T2 := [(rr, .ref a), (rk, y)]) (by simpa using h2)) (lk_getD l (fzn.mpr rfl))
theorem fe_get2 (hu : X.A.units + 1 < cLine) (ho : FE X o fo) (he : FE X e fk) (hf : FE X f fx) (m : M2 X o "get" apos e f cpos) : FE X (.Call (.Attribute o "get" apos) [e, f] [] cpos) (wGet2 fo fk fx) := by
  refine ⟨pe_imp (pe_g2 hu ho.pe he.pe hf.pe m) ?_, fun e Q Q' h w => ho.mono _ _ _ (fun r e0 ⟨k0, w1⟩ => ⟨k0, he.mono _ _ _ (fun rk e1 w2 => hf.mono _ _ _ (fun rx e2 ⟨dx, e3, kds, k, h1, h2, h3, h4, w3⟩ => ⟨dx, e3, kds, k, h1, h2, h3, h4, h _ _ w3⟩) w2) w1⟩) w⟩
  rintro σ H Q ⟨P, B, ios, e, T, r, w⟩
  refine ⟨P, B, ios, e, T, r, ho.mono _ _ _ (fun rr e1 w1 x H1 h1 => ?_) w⟩
  obtain ⟨⟨k0, hk0⟩, w1⟩ := w1
  obtain ⟨M, h1⟩ := h1
  obtain ⟨a, rfl, isd⟩ := vw_isD (h1.view (x := rr) (v := x) (by simp) (dic_at hk0))
  refine ⟨a, rfl, isd, P, B, ios, e1, _, ⟨M, h1⟩, he.mono _ _ _ (fun rk e2 w2 y H2 h2 => ?_) w1⟩
  refine ⟨P, B, ios, e2, _, h2, hf.mono _ _ _ (fun rx e3 w3 z H3 h3 => ?_) w2⟩
  obtain ⟨dx, e4, kds, k, f0, d1, d2, d3, w3⟩ := w3
  obtain ⟨M3, h3⟩ := h3
  obtain ⟨M4, x4, h4, fx4⟩ := h3.freezeAt (T2 := []) f0
  obtain ⟨a', ov, ha, g, l⟩ := vw_dg h4.mh (h4.view (x := rr) (v := .ref a) (by simp) (dic_at d1)) d3 (h4.view (x := rk) (v := y) (by simp) d2)
  cases ha
  refine ⟨ov, g, w3 _ _ ⟨M4, ?_⟩⟩
  exact RepM.push_fz (RepM.popN (T2 := [(rr, .ref a), (rk, y), (.fz dx, z)]) (by simpa using h4)) (lk_getD l fx4)
end
end
end PL
set_option Elab.async false
set_option linter.all false
set_option autoImplicit false
set_option maxRecDepth 100000
set_option maxHeartbeats 4000000
/-! PLr: dicts over data: made, written. -/
namespace PL
open PySem PySem.Spec PyProof.Rows L2
section
variable {X : Cx}
/-! ### {} -/
def wNewK : DE := fun e Q => Q (.ow (.dict [])) e
def wNewT : DE := fun e Q => Q (.ow (.dict [(.none, .none)])) e
theorem fe_newK {pos : Pos} : FE X (.Dict [] [] pos) wNewK := by
  refine ⟨pe_imp pe_dnewK ?_, fun e Q Q' h w => h _ _ w⟩
  rintro σ H Q ⟨P, B, ios, e, T, ⟨M, r⟩, w⟩ p hp
  exact gives_of (o := .new (.dict [])) r (fun v H' q => w v H' q) p _ hp (.inl ⟨[], upd_same, rfl, .nil⟩)
theorem fe_newT {pos : Pos} : FE X (.Dict [] [] pos) wNewT := by
  refine ⟨pe_imp pe_dnewT ?_, fun e Q Q' h w => h _ _ w⟩
  rintro σ H Q ⟨P, B, ios, e, T, ⟨M, r⟩, w⟩ p hp
  exact gives_of (o := .new (.dict [(.none, .none)])) r (fun v H' q => w v H' q) p _ hp (.inr ⟨[], upd_same, rfl, .cons (fzn.mpr rfl) .nil⟩)
/-! ### d[k] = v -/
def rSetK : V → V → V → Hp → (Hp → Prop) → Prop := fun o i v H Q => ∃ a H', o = .ref a ∧ DPut H a i v H' ∧ Q H'
theorem set_dict (hu : X.A.units + 1 < cLine) : PSet X rSetK := by
  intro pins s σ H o i v ov iv u Q I ro ri rv h
  obtain ⟨a, H', rfl, g, q⟩ := h
  cases ro
  exact d_setItem hu I g ri rv fun s' I' => ⟨H', I', q⟩
theorem put_keys {κ : Type} [DecidableEq κ] (j : κ → D) (hj : ∀ a b, j a = j b → a = b) {kds : List (D × D)} {kvs : List (κ × V)} (h : kds.map Prod.fst = kvs.map (fun p => j p.1)) (k : κ) (d : D) (v : V) :
    (putD kds (j k) d).map Prod.fst = (putK kvs k v).map (fun p => j p.1) := by
  have hany : ∀ {kds : List (D × D)} {kvs : List (κ × V)}, kds.map Prod.fst = kvs.map (fun p => j p.1) → (kds.any fun p => @decide (p.1 = j k) (Classical.propDecidable _)) = kvs.any fun p => decide (p.1 = k) := by
    intro kds
    induction kds with
    | nil => intro kvs h; cases kvs with
      | nil => rfl
      | cons q r => simp at h
    | cons p kds ih => intro kvs h; cases kvs with
      | nil => simp at h
      | cons q r =>
        rw [List.map_cons, List.map_cons] at h
        injection h with h1 h2
        rw [List.any_cons, List.any_cons, ih h2]
        congr 1
        letI : Decidable (p.1 = j k) := Classical.propDecidable _
        by_cases e : q.1 = k
        · rw [decide_eq_true (by rw [h1, e]), decide_eq_true e]
        · rw [decide_eq_false fun z => e (hj _ _ (h1.symm.trans z)), decide_eq_false e]
  unfold putD putK
  rw [hany h]
  by_cases c : (kvs.any fun p => decide (p.1 = k)) = true
  · rw [if_pos c, if_pos c, List.map_map, List.map_map]
    have e1 : (Prod.fst ∘ fun p : D × D => @ite (D × D) (p.1 = j k) (Classical.propDecidable _) (p.1, d) p) = Prod.fst := by
      funext p
      show (@ite (D × D) (p.1 = j k) (Classical.propDecidable _) (p.1, d) p).1 = p.1
      split <;> rfl
    have e2 : ((fun p : κ × V => j p.1) ∘ fun p : κ × V => if p.1 = k then (p.1, v) else p) = fun p => j p.1 := by
      funext p
      show j (if p.1 = k then (p.1, v) else p).1 = j p.1
      split <;> rfl
    rw [e1, e2]; exact h
  · rw [if_neg c, if_neg c, List.map_append, List.map_append, h]; rfl
theorem put_vals {κ : Type} [DecidableEq κ] {K : PySem.W.Frag} {M : Hp} (j : κ → D) (hj : ∀ a b, j a = j b → a = b) {kds : List (D × D)} {kvs : List (κ × V)} (h : kds.map Prod.fst = kvs.map (fun p => j p.1)) (f : FzL K M (kds.map Prod.snd) (kvs.map Prod.snd)) {k : κ} {d : D} {v : V} (fv : Fz K M d v) :
    FzL K M ((putD kds (j k) d).map Prod.snd) ((putK kvs k v).map Prod.snd) := by
  have hany : ∀ {kds : List (D × D)} {kvs : List (κ × V)}, kds.map Prod.fst = kvs.map (fun p => j p.1) → (kds.any fun p => @decide (p.1 = j k) (Classical.propDecidable _)) = kvs.any fun p => decide (p.1 = k) := by
    intro kds
    induction kds with
    | nil => intro kvs h; cases kvs with
      | nil => rfl
      | cons q r => simp at h
    | cons p kds ih => intro kvs h; cases kvs with
      | nil => simp at h
      | cons q r =>
        rw [List.map_cons, List.map_cons] at h
        injection h with h1 h2
        rw [List.any_cons, List.any_cons, ih h2]
        congr 1
        letI : Decidable (p.1 = j k) := Classical.propDecidable _
        by_cases e : q.1 = k
        · rw [decide_eq_true (by rw [h1, e]), decide_eq_true e]
        · rw [decide_eq_false fun z => e (hj _ _ (h1.symm.trans z)), decide_eq_false e]
  unfold putD putK
  rw [hany h]
  by_cases c : (kvs.any fun p => decide (p.1 = k)) = true
  · rw [if_pos c, if_pos c]
    clear c hany
    induction kds generalizing kvs with
    | nil => cases kvs with
      | nil => exact .nil
      | cons q r => simp at h
    | cons p kds ih => cases kvs with
      | nil => simp at h
      | cons q r =>
        rw [List.map_cons, List.map_cons] at h f
        injection h with h1 h2
        obtain ⟨f1, f2⟩ := FzL.cons_iff.mp f
        rw [List.map_cons, List.map_cons, List.map_cons, List.map_cons]
        refine .cons ?_ (ih h2 f2)
        by_cases e : q.1 = k
        · rw [if_pos (h1.trans (by rw [e])), if_pos e]; exact fv
        · rw [if_neg (fun z => e (hj _ _ (h1.symm.trans z))), if_neg e]; exact f1
  · rw [if_neg c, if_neg c, List.map_append, List.map_append]
    exact f.append (.cons fv .nil)
theorem tab_len {κ : Type} {K : PySem.W.Frag} {M : Hp} {kds : List (D × D)} {kvs : List (κ × V)} (f : FzL K M (kds.map Prod.snd) (kvs.map Prod.snd)) : kds.length = kvs.length := by
  have := f.length; simpa using this
def gSetD : D → D → D → (D → Prop) → Prop
  | .dict kds, k, d, Q => isTd kds = false ∧ isK k = true ∧ kds.length < 100000 ∧ Q (.dict (putD kds k d))
  | _, _, _, _ => False
theorem g_setD {K : PySem.W.Frag} : OpSet K rSetK gSetD where
  run := fun M H d a dk dv k v Q ex hm o fk fv w => by
    unfold gSetD at w
    split at w
    · obtain ⟨h1, h2, h3, w⟩ := w
      obtain ⟨j, rfl⟩ := isK_kD h2
      rw [fz_kD] at fk
      subst fk
      rcases o with ⟨kvs, hk, q, fl⟩ | ⟨kvs, hk, q, fl⟩
      · refine ⟨a, _, rfl, DPut.k hk (by rw [← tab_len fl]; exact ltline_of h3), w _ (.inl ⟨_, upd_same, put_keys kD (fun _ _ => kD_inj) q _ _ _, put_vals kD (fun _ _ => kD_inj) q fl fv⟩)⟩
      · rw [(td_of q).1] at h1; cases h1
    · exact w.elim
  mono := fun d dk dv Q Q' h w => by
    unfold gSetD at w ⊢
    split at w
    · exact ⟨w.1, w.2.1, w.2.2.1, h _ w.2.2.2⟩
    · exact w.elim
/-- d[t] = v, t a tuple that is a slot's own, or just made -/
def keyT (e : DEnv) : Res → Option (List D)
  | .ow (.tuple ds) => some ds
  | .loc i => match e[i]? with
    | some (some (.ow, .tuple ds)) => some ds
    | _ => none
  | _ => none
def wGSubT (fo fi : DE) : DG := fun r e Q => fo e fun ro e1 => ∃ i, ro = .loc i ∧ fi e1 fun rk e2 => ∃ dv e3 ks k kds, frz e2 r = some (dv, e3) ∧ keyT e3 rk = some ks ∧ ks.all isK = true ∧ ownAt? e3 i = some (k, .dict kds) ∧ isTd kds = true ∧ kds.length < 100000 ∧
  Q (e3.set i (some (k, .dict (putD kds (.tuple ks) dv))))
theorem fg_subT {a b : Expr} {fa fb : DE} {pos : Pos} (hu : X.A.units + 1 < cLine) (ho : FE X a fa) (hi : FE X b fb)
    (ha : ∀ v, assign (.Subscript a b pos) X.env v = (do
      let ov ← holding [v] (eval a X.env)
      let iv ← holding [v, ov] (eval b X.env)
      standAt pos
      holding [v, ov, iv] (setItem ov iv v)
      release [v, ov, iv] []) := by intro _; rfl) : FG X (.Subscript a b pos) [] (wGSubT fa fb) := by
  refine ⟨pg_imp (pg_sub ho.pe hi.pe (set_dict hu) ha) ?_, fun r e Q Q' hq w => ?_⟩
  · rintro v σ H Q ⟨P, B, ios, e, T, r, nl, h, w⟩
    refine ⟨P, B, ios, e, _, h, ho.mono _ _ _ (fun ro e1 w1 o H1 h1 => ?_) w⟩
    obtain ⟨i, rfl, w1⟩ := w1
    refine ⟨P, B, ios, e1, _, h1, hi.mono _ _ _ (fun rk e2 w2 y H2 h2 => ?_) w1⟩
    obtain ⟨dv, e3, ks, k, kds, hf, hkt, hks, ow, htd, hlen, w3⟩ := w2
    obtain ⟨M, h2⟩ := h2
    have h2' : RepM X.K P B M ios e2 σ (T ++ (r, v) :: ([(.loc i, o)] ++ [(rk, y)])) H2 := by simpa using h2
    obtain ⟨M1, x1, r1, q1⟩ := h2'.freezeAt hf
    obtain ⟨q, hk⟩ := ownAt_spec ow
    have hsl := r1.loc i o (by simp)
    obtain ⟨p, s, own, hm, hp⟩ := r1.owS q hk
    rw [hsl] at s; cases s
    -- the key's tuple
    obtain ⟨b, us, rfl, hb, fb⟩ : ∃ b us, y = .ref b ∧ H2 b = some (.tup us) ∧ FzL X.K M1 ks us := by
      cases rk with
      | ow d =>
        cases d with
        | tuple ds =>
          have hkt : some ds = some ks := hkt
          cases hkt
          obtain ⟨b, rfl, ⟨us, hb, fb⟩, _⟩ := r1.tow (d := .tuple ks) (v := y) (by simp)
          exact ⟨b, us, rfl, hb, fb⟩
        | _ => cases hkt
      | loc j =>
        unfold keyT at hkt
        dsimp only at hkt
        split at hkt
        · rename_i ds z
          cases hkt
          have hy := r1.loc j y (by simp)
          obtain ⟨b, s, ⟨us, hb, fb⟩, _⟩ := r1.owS z rfl
          rw [hy] at s; cases s
          exact ⟨b, us, rfl, hb, fb⟩
        · cases hkt
      | fz d => cases hkt
      | junk => cases hkt
    obtain ⟨kk, hkk⟩ := isT_tD (d := .tuple ks) hks
    have hkk' : ks = kk.map kD := by unfold tD at hkk; injection hkk
    subst hkk'
    have := fz_kDs fb
    subst this
    rcases own with ⟨kvs, hd, qk, fl⟩ | ⟨kvs, hd, qk, fl⟩
    · exfalso
      have q' : kds.map Prod.fst = (kvs.map Prod.fst).map kD := by rw [qk, List.map_map]; rfl
      rw [not_td q'] at htd; cases htd
    · obtain ⟨_, v0, rr, rfl, q2⟩ := td_of qk
      rw [List.map_cons] at fl
      obtain ⟨f0, fl2⟩ := FzL.cons_iff.mp fl
      have hl2 := tab_len fl2
      have hne : ∀ (l : List (D × D)) (v0 dd : D), putD ((.none, v0) :: l) (tD kk) dd = (.none, v0) :: putD l (tD kk) dd := by
        intro l v0 dd
        have hn : (PyData.none : D) ≠ tD kk := fun z => by cases z
        unfold putD
        letI : Decidable ((PyData.none : D) = tD kk) := Classical.propDecidable _
        rw [List.any_cons, decide_eq_false hn, Bool.false_or]
        split
        · rw [List.map_cons, if_neg hn]
        · rfl
      refine ⟨p, _, rfl, DPut.t hd hb (by rw [← hl2]; simp only [List.length_cons] at hlen; exact ltline_of (by omega)), ?_⟩
      have own' : OwnAt X.K M1 (upd H2 p (.dT (putK kvs kk v))) (.dict (putD ((.none, v0) :: rr) (.tuple (kk.map kD)) dv)) p := by
        refine .inr ⟨_, upd_same, ?_, ?_⟩
        · show (putD ((.none, v0) :: rr) (tD kk) dv).map Prod.fst = _
          rw [hne, List.map_cons, put_keys tD (fun _ _ => tD_inj) q2 kk dv v]
        · show FzL X.K M1 ((putD ((.none, v0) :: rr) (tD kk) dv).map Prod.snd) _
          rw [hne, List.map_cons]
          exact .cons f0 (put_vals tD (fun _ _ => tD_inj) q2 fl2 q1)
      have r3 : RepM X.K P B M1 ios e3 σ (T ++ ([(.fz dv, v)] ++ [(.loc i, .ref p)] ++ [(rk, .ref b)])) H2 := by simpa using r1
      exact w3 σ _ (.refl _ _) ⟨M1, r3.popN.mutate q hk hsl (hm.none fun _ z => nomatch z) own'⟩
  · refine ho.mono _ _ _ (fun ro e1 w1 => ?_) w
    obtain ⟨i, q, w1⟩ := w1
    refine ⟨i, q, hi.mono _ _ _ (fun rk e2 w2 => ?_) w1⟩
    obtain ⟨dv, e3, ks, k, kds, h1, h2, h3, h4, h5, h6, w3⟩ := w2
    exact ⟨dv, e3, ks, k, kds, h1, h2, h3, h4, h5, h6, hq _ w3⟩
/-! ### dict(pairs) -/
noncomputable def mergeD (kds more : List (D × D)) : List (D × D) := more.foldl (fun acc p => putD acc p.1 p.2) kds
theorem pair_of {d : D} {p : D × D} (h : pairOf d = some p) : d = .tuple [p.1, p.2] ∧ isK p.1 = true := by
  unfold pairOf at h
  split at h
  · split at h
    · cases h; exact ⟨rfl, by assumption⟩
    · cases h
  · cases h
/-- the rows of pairs, in both worlds -/
theorem pairs_fz {K : PySem.W.Frag} {M : Hp} : ∀ {ds : List D} {vs : List V} {ps : List (D × D)}, pairsOf ds = some ps → FzL K M ds vs →
    ∃ (as : List Addr) (kvs : List (Key × V)), vs = as.map V.ref ∧ Paired (fun p kv => SqT K M p [kV kv.1, kv.2]) as kvs ∧ ps.map Prod.fst = kvs.map (fun p => kD p.1) ∧ FzL K M (ps.map Prod.snd) (kvs.map Prod.snd)
  | [], vs, ps, h, f => by
    cases h
    simp only [FzL] at f
    subst f
    exact ⟨[], [], rfl, .nil, rfl, .nil⟩
  | d :: ds, vs, ps, h, f => by
    unfold pairsOf at h
    split at h
    · rename_i p ps' h1 h2
      cases h
      simp only [FzL] at f
      obtain ⟨v, r, rfl, f1, f2⟩ := f
      obtain ⟨as, kvs, rfl, pr, e1, e2⟩ := pairs_fz h2 f2
      obtain ⟨rfl, hk⟩ := pair_of h1
      simp only [Fz] at f1
      obtain ⟨a, us, rfl, sq, fu⟩ := f1
      simp only [FzL] at fu
      obtain ⟨k1, r1, rfl, g1, v1, r2, rfl, g2, rfl⟩ := fu
      obtain ⟨j, hj⟩ := isK_kD hk
      rw [hj, fz_kD] at g1
      subst g1
      refine ⟨a :: as, (j, v1) :: kvs, rfl, .cons sq.1 pr, ?_, ?_⟩
      · rw [List.map_cons, List.map_cons, e1, hj]
      · rw [List.map_cons, List.map_cons]; exact .cons g2 e2
    · cases h
theorem merge_keys : ∀ {ps : List (D × D)} {kvs : List (Key × V)} {K : PySem.W.Frag} {M : Hp} {a0 : List (D × D)} {b0 : List (Key × V)}, ps.map Prod.fst = kvs.map (fun p => kD p.1) → FzL K M (ps.map Prod.snd) (kvs.map Prod.snd) →
    a0.map Prod.fst = b0.map (fun p => kD p.1) → FzL K M (a0.map Prod.snd) (b0.map Prod.snd) → (mergeD a0 ps).map Prod.fst = (mergeK b0 kvs).map (fun p => kD p.1) ∧ FzL K M ((mergeD a0 ps).map Prod.snd) ((mergeK b0 kvs).map Prod.snd)
  | [], [], K, M, a0, b0, _, _, h, f => ⟨h, f⟩
  | p :: ps, q :: kvs, K, M, a0, b0, h, f, h0, f0 => by
    rw [List.map_cons, List.map_cons] at h f
    injection h with h1 h2
    obtain ⟨f1, f2⟩ := FzL.cons_iff.mp f
    obtain ⟨pk, pd⟩ := p
    obtain ⟨qk, qv⟩ := q
    dsimp only at h1 f1
    subst h1
    have r := merge_keys (ps := ps) (kvs := kvs) h2 f2 (put_keys kD (fun _ _ => kD_inj) h0 qk pd qv) (put_vals kD (fun _ _ => kD_inj) h0 f0 f1)
    exact r
  | [], _ :: _, K, M, a0, b0, h, _, _, _ => by simp at h
  | _ :: _, [], K, M, a0, b0, h, _, _, _ => by simp at h
theorem pairs_items {h : Heap} : ∀ {as : List Addr} {prs : List (Key × Value)}, prs.length = as.length → (∀ (j : Nat) (q : Key × Value), prs[j]? = some q → ∃ (b : Addr) (u : Value), as[j]? = some b ∧ IsTup h b #[u, q.2] ∧ keyIs q.1 u = true) →
    ∃ ps : List (Value × Value), ps.length = prs.length ∧ ∀ (j : Nat) (q : Key × Value), prs[j]? = some q → ∃ b u, as[j]? = some b ∧ ps[j]? = some (u, q.2) ∧ IsTup h b #[u, q.2] ∧ keyIs q.1 u = true
  | [], [], _, _ => ⟨[], rfl, fun j q z => by simp at z⟩
  | a :: as, q :: prs, hl, hp => by
    obtain ⟨ps, e1, e2⟩ := pairs_items (h := h) (as := as) (prs := prs) (by simpa using hl) fun j q' z => by
      obtain ⟨b, u, q1, q2, q3⟩ := hp (j + 1) q' (by simpa using z)
      exact ⟨b, u, by simpa using q1, q2, q3⟩
    obtain ⟨b, u, q1, q2, q3⟩ := hp 0 q rfl
    refine ⟨(u, q.2) :: ps, by simp [e1], fun j q' z => ?_⟩
    cases j with
    | zero => cases z; exact ⟨b, u, q1, rfl, q2, q3⟩
    | succ j =>
      obtain ⟨b', u', r1, r2, r3, r4⟩ := e2 j q' (by simpa using z)
      exact ⟨b', u', by simpa using r1, by simpa using r2, r3, r4⟩
  | [], _ :: _, hl, _ => by simp at hl
  | _ :: _, [], hl, _ => by simp at hl
theorem call_dictT (hcalm : X.calm = true) : CallR X (.type "dict") (fun xs H Q => ∃ (a : Addr) (ps : List Addr) (kvs : List (Key × V)), xs = [.ref a] ∧ SqT X.K H a (ps.map V.ref) ∧ NoD X.K H a ∧ Paired (fun p kv => SqT X.K H p [kV kv.1, kv.2]) ps kvs ∧
    ∀ p, H p = none → Q (.ref p) (upd H p (.dK (mergeK [] kvs)))) := by
  intro pins s σ H xs us Q I r q
  obtain ⟨a, as, kvs, rfl, hq, nd, hp, q⟩ := q
  obtain ⟨u, rfl, rx⟩ := vals1 r
  have eu : u = Value.ref a := rx
  subst eu
  obtain ⟨its, rv, pl, hz⟩ := I.tuple hq
  have ei := refs_at rv
  subst ei
  rw [List.length_map] at hz
  obtain ⟨prs, rel, hl, hpr⟩ := pairs_of I hp
  obtain ⟨ps, hps, hat⟩ := pairs_items hl hpr
  have plain : PySem.PlainSeq "tuple" s.heap a (as.map Value.ref).toArray := by
    obtain ⟨o, g1, g2, n, g3⟩ := pl
    refine ⟨o, n, g1, g2, ?_, g3⟩
    rcases nd with ⟨o', w', z, hd⟩ | ⟨o', z, hd⟩
    · have := (I.hok a _ z).1
      rw [g1] at this; cases this; exact hd
    · have := I.kIn a o' z
      rw [g1] at this; cases this; exact hd
  let Ts : Nat → Addr := fun j => as.getD j 0
  have P := PySem.PairArg.tuple (prog := X.prog) (w := X.w) a (as.map Value.ref).toArray Ts ps
  have items : PySem.PairItems s.heap (as.map Value.ref).toArray Ts ps := by
    refine ⟨by simp [hps, hl], fun j k v hj => ?_⟩
    have hj' : j < prs.length := by rw [← hps]; exact (List.getElem?_eq_some_iff.mp hj).1
    obtain ⟨b, u, e1, e2, e3, _⟩ := hat j prs[j] (List.getElem?_eq_getElem hj')
    rw [hj] at e2; cases e2
    have hb : Ts j = b := by show as.getD j 0 = b; rw [List.getD_eq_getElem?_getD, e1]; rfl
    refine ⟨by simp [e1, hb], .inl ?_⟩
    rw [hb]
    obtain ⟨o, z1, z2, n, z3⟩ := e3
    exact ⟨o, z1, z2, n, z3⟩
  have have_ : PySem.PairsHave (mixKind X.prog X.w) ps.length (PySem.PairRel ps) prs := by
    refine ⟨hps.symm, fun i key v hi => ?_⟩
    have hi : ps[i]? = some (key, v) := hi
    have hj' : i < prs.length := by rw [← hps]; exact (List.getElem?_eq_some_iff.mp hi).1
    obtain ⟨b, u, e1, e2, e3, e4⟩ := hat i prs[i] (List.getElem?_eq_getElem hj')
    rw [hi] at e2; cases e2
    exact ⟨prs[i].1, List.getElem?_eq_getElem hj', e4⟩
  apply PySem.call_dict_pairs P (I.ok.hd hcalm) ⟨plain, items⟩ have_ (by rw [hps, hl]; exact hz)
  intro h' tk hd' k
  have hm : (s.heap.objs.size == sysModules) = false := beq_eq_false_iff_ne.mpr (Nat.ne_of_gt I.big)
  have hlen : (mergeK [] kvs).length ≤ sizeLine := by
    apply Nat.le_trans (length_mergeK kvs [])
    rw [List.length_nil, Nat.zero_add, rel.length, hl]
    exact hz
  refine ⟨.ref s.heap.objs.size, upd H s.heap.objs.size (.dK (mergeK [] kvs)), I.laid (t' := tk) (fun b o e => k b o (by simp) e) (Nat.le_refl _) ⟨hlen, hm, merged [] prs, KV.merge rel .nil, hd'⟩, rfl, q _ (I.hok.fresh (Nat.le_refl _))⟩
/-- dict(rows of pairs), dict(d): a new dict -/
def gDict1 : D → (Out → Prop) → Prop
  | .list ds, Q => ∃ ps, pairsOf ds = some ps ∧ Q (.new (.dict (mergeD [] ps)))
  | .tuple ds, Q => ∃ ps, pairsOf ds = some ps ∧ Q (.new (.dict (mergeD [] ps)))
  | .dict kds, Q => isTd kds = false ∧ Q (.new (.dict kds))
  | _, _ => False
abbrev rDict1 (K : PySem.W.Frag) : List V → Hp → VK → Prop := fun xs H Q => (fun xs H Q => (fun xs H Q => ∃ (a : Addr) (ps : List Addr) (kvs : List (Key × V)), xs = [V.ref a] ∧ SqL K H a (ps.map V.ref) ∧ Paired (fun p kv => SqT K H p [kV kv.1, kv.2]) ps kvs ∧ ∀ p, H p = none → Q (.ref p) (upd H p (.dK (mergeK [] kvs)))) xs H Q ∨
  (fun xs H Q => ∃ (a : Addr) (ps : List Addr) (kvs : List (Key × V)), xs = [V.ref a] ∧ SqT K H a (ps.map V.ref) ∧ NoD K H a ∧ Paired (fun p kv => SqT K H p [kV kv.1, kv.2]) ps kvs ∧ ∀ p, H p = none → Q (.ref p) (upd H p (.dK (mergeK [] kvs)))) xs H Q) xs H Q ∨
  (fun xs H Q => ∃ (a : Addr) (kvs : List (Key × V)), xs = [V.ref a] ∧ Rd H a (.dK kvs) ∧ ∀ p, H p = none → Q (.ref p) (upd H p (.dK kvs))) xs H Q
theorem call_dict1 (hcalm : X.calm = true) : CallR X (.type "dict") (rDict1 X.K) := ((call_dictP hcalm).or (call_dictT hcalm)).or call_dictD
theorem g_dict1 {K : PySem.W.Frag} : OpN K (rDict1 K) (g1 gDict1) := op_g1 (fun M H d x Q ex v w => by
    unfold gDict1 at w
    split at w
    · obtain ⟨ps, h, w⟩ := w
      obtain ⟨a, vs, rfl, r, f⟩ := v
      obtain ⟨as, kvs, rfl, pr, e1, e2⟩ := pairs_fz h f
      obtain ⟨m1, m2⟩ := merge_keys (a0 := []) (b0 := []) e1 e2 rfl .nil
      exact .inl (.inl ⟨a, as, kvs, rfl, .inl (.inl r), L2.Paired.mapP pr fun _ _ z => ex.t0 z, fun p hp => w p _ hp (.inl ⟨_, upd_same, m1, m2⟩)⟩)
    · obtain ⟨ps, h, w⟩ := w
      rw [vwt] at v
      obtain ⟨a, vs, rfl, r, f⟩ := v
      obtain ⟨as, kvs, rfl, pr, e1, e2⟩ := pairs_fz h f
      obtain ⟨m1, m2⟩ := merge_keys (a0 := []) (b0 := []) e1 e2 rfl .nil
      exact .inl (.inr ⟨a, as, kvs, rfl, ex.t r, ex.d (r.2 (by rw [h]; simp)), L2.Paired.mapP pr fun _ _ z => ex.t0 z, fun p hp => w p _ hp (.inl ⟨_, upd_same, m1, m2⟩)⟩)
    · obtain ⟨h, w⟩ := w
      obtain ⟨a, rfl, v⟩ := v
      rcases v with ⟨kvs, rd, q, fl⟩ | ⟨kvs, rd, q, fl⟩
      · exact .inr ⟨a, kvs, rfl, rd, fun p hp => w p _ hp (.inl ⟨_, upd_same, q, fl⟩)⟩
      · rw [(td_of q).1] at h; cases h
    · exact w.elim) fun d Q Q' h w => by
    unfold gDict1 at w ⊢
    split at w
    · obtain ⟨ps, q, w⟩ := w; exact ⟨ps, q, h _ w⟩
    · obtain ⟨ps, q, w⟩ := w; exact ⟨ps, q, h _ w⟩
    · exact ⟨w.1, h _ w.2⟩
    · exact w.elim
end
end PL
set_option Elab.async false
set_option linter.all false
set_option autoImplicit false
set_option maxRecDepth 100000
set_option maxHeartbeats 4000000
/-! PLs: sorted, more of lists. -/
namespace PL
open PySem PySem.Spec PyProof.Rows L2
section
variable {X : Cx}
/-! ### sorted(xs) of any data that are alike -/
def rSortA (K : PySem.W.Frag) : List V → Hp → VK → Prop := fun xs H Q => ∃ (a : Addr) (ps : List (V × D)), xs = [.ref a] ∧ SqL K H a (ps.map Prod.fst) ∧ (∀ p ∈ ps, Dp K H p.1 p.2 ∧ p.2.depth ≤ 64) ∧ PySem.W.AllAlike (ps.map Prod.snd) ∧ PySem.W.Sortable (ps.map Prod.snd) ∧
  ∀ l, H l = none → Q (.ref l) (upd H l (.lst ((ps.mergeSort (PySem.W.dataLe false Prod.snd)).map Prod.fst)))
theorem each_of {R : Value → V × D → Prop} : ∀ {ps : List (V × D)} {its : List Value}, Vals (ps.map Prod.fst) its → (∀ p ∈ ps, ∀ u, RelV p.1 u → R u p) → PySem.W.EachIs R its ps
  | [], its, r, h => by cases r; exact .nil
  | p :: ps, its, r, h => by
    cases r with
    | cons r1 r2 => exact .cons (h p (by simp) _ r1) (each_of r2 fun q hq => h q (List.mem_cons_of_mem _ hq))
theorem of_each : ∀ {ps : List (V × D)} {its : List Value}, PySem.W.EachIs (fun u (p : V × D) => RelV p.1 u) its ps → Vals (ps.map Prod.fst) its
  | _, _, .nil => .nil
  | _, _, .cons h t => .cons h (of_each t)
theorem cr_sortA (hu : X.A.units + 130 < cLine) : CallR X (.builtin "sorted") (rSortA X.K) := by
  intro pins s σ H xs us Q I r h
  obtain ⟨a, ps, rfl, hq, hd, hal, hso, q⟩ := h
  obtain ⟨u, rfl, rx⟩ := vals1 r
  have eu : u = Value.ref a := rx
  subst eu
  obtain ⟨its, rv, pl, hz⟩ := I.list hq
  have e1 : PySem.W.EachIs (fun u (p : V × D) => RelV p.1 u) its ps := each_of rv fun p _ u h => h
  have e2 : PySem.W.EachIs (fun u (p : V × D) => ∃ as, Reads s.heap u p.2 as) its ps := each_of rv fun p hp u h => Dp.reads I p.2 p.1 u (hd p hp).1 h
  have hl : ps.length ≤ sizeLine := by simpa using hz
  apply PySem.W.sorted_data pl.isList e1 e2 hal hso hl (fun b hb => by have := (hd b hb).2; omega)
  intro out ho eo
  obtain ⟨n, hn⟩ := PyProof.Rows.sortedAll_at s.heap its (List.toArray out)
  refine ⟨.ref (s.heap.objs.size + 1), upd H (s.heap.objs.size + 1) (.lst ((ps.mergeSort (PySem.W.dataLe false Prod.snd)).map Prod.fst)), I.laid (t' := s.toks) (fun b o hb => PyProof.Rows.sortedAll_old hb) (by omega) ⟨?_, out, n, of_each eo, hn⟩, rfl, q _ (I.hok.fresh (by omega))⟩
  rw [List.length_map, List.length_mergeSort]; exact hl
theorem zip_fst {α β : Type} : ∀ {l : List α} {m : List β}, l.length = m.length → (l.zip m).map Prod.fst = l
  | [], [], _ => rfl
  | a :: l, b :: m, h => by rw [List.zip_cons_cons, List.map_cons, zip_fst (by simpa using h)]
  | [], _ :: _, h => by simp at h
  | _ :: _, [], h => by simp at h
theorem zip_snd {α β : Type} : ∀ {l : List α} {m : List β}, l.length = m.length → (l.zip m).map Prod.snd = m
  | [], [], _ => rfl
  | a :: l, b :: m, h => by rw [List.zip_cons_cons, List.map_cons, zip_snd (by simpa using h)]
  | [], _ :: _, h => by simp at h
  | _ :: _, [], h => by simp at h
theorem fzl_zip {K : PySem.W.Frag} {M : Hp} : ∀ {ds : List D} {vs : List V}, FzL K M ds vs → ∀ p ∈ vs.zip ds, Fz K M p.2 p.1
  | [], vs, f, p, h => by simp at h
  | d :: ds, vs, f, p, h => by
    simp only [FzL] at f
    obtain ⟨v, r, rfl, f1, f2⟩ := f
    rw [List.zip_cons_cons] at h
    rcases List.mem_cons.mp h with rfl | h
    · exact f1
    · exact fzl_zip f2 p h
theorem fzl_of_pairs {K : PySem.W.Frag} {M : Hp} : ∀ {ps : List (V × D)}, (∀ p ∈ ps, Fz K M p.2 p.1) → FzL K M (ps.map Prod.snd) (ps.map Prod.fst)
  | [], _ => .nil
  | p :: ps, h => .cons (h p (by simp)) (fzl_of_pairs fun q hq => h q (List.mem_cons_of_mem _ hq))
def sortD (ds : List D) : List D := ds.mergeSort (PySem.W.dataLe false id)
theorem sort_zip (ps : List (V × D)) : (ps.mergeSort (PySem.W.dataLe false Prod.snd)).map Prod.snd = sortD (ps.map Prod.snd) := by
  unfold sortD
  exact List.map_mergeSort fun a _ b _ => rfl
def gSorted (d : D) (Q : Out → Prop) : Prop := ∃ ds, seqL d = some ds ∧ (PyData.canLayAll0 ds = true ∧ (∀ e ∈ ds, e.depth ≤ 64) ∧ PySem.W.AllAlike ds ∧ PySem.W.Sortable ds) ∧ Q (.new (.list (sortD ds)))
where seqL : D → Option (List D)
  | .list ds => some ds
  | _ => none
theorem canLay_mem {ds : List D} (h : PyData.canLayAll0 ds = true) {d : D} (hd : d ∈ ds) : d.canLay0 = true := by
  induction ds with
  | nil => cases hd
  | cons x l ih =>
    rw [PyData.canLayAll0, Bool.and_eq_true] at h
    rcases List.mem_cons.mp hd with rfl | hd
    · exact h.1
    · exact ih h.2 hd
theorem g_sorted {K : PySem.W.Frag} : OpN K (rSortA K) (g1 gSorted) := op_g1 (fun M H d x Q ex v w => by
    obtain ⟨ds, hs, ⟨c1, c2, c3, c4⟩, w⟩ := w
    cases d with
    | list es =>
      cases hs
      obtain ⟨a, vs, rfl, r, f⟩ := v
      have hl := f.length
      have z1 := zip_fst (l := vs) (m := ds) hl.symm
      have z2 := zip_snd (l := vs) (m := ds) hl.symm
      refine ⟨a, vs.zip ds, rfl, by rw [z1]; exact .inl (.inl r), fun p hp => ?_, by rw [z2]; exact c3, by rw [z2]; exact c4, fun l hl => ?_⟩
      · have hm : p.2 ∈ ds := (List.of_mem_zip (show (p.1, p.2) ∈ _ from hp)).2
        exact ⟨fz_dp ex _ _ (canLay_mem c1 hm) (fzl_zip f p hp), c2 _ hm⟩
      · refine w l _ hl ⟨_, upd_same, ?_⟩
        have := fzl_of_pairs (K := K) (M := M) (ps := (vs.zip ds).mergeSort (PySem.W.dataLe false Prod.snd)) fun p hp => fzl_zip f p (List.mem_mergeSort.mp hp)
        rw [sort_zip, z2] at this
        exact this
    | _ => cases hs) fun d Q Q' h w => by
    obtain ⟨ds, hs, c, w⟩ := w
    exact ⟨ds, hs, c, h _ w⟩
end
end PL
set_option Elab.async false
set_option linter.all false
set_option autoImplicit false
set_option maxRecDepth 100000
set_option maxHeartbeats 4000000
/-! PLt: zip, enumerate; more methods; a, b, .. = .. of any names. -/
namespace PL
open PySem PySem.Spec PyProof.Rows L2
section
variable {X : Cx}
/-! ### list methods -/
def gReverse : D → List D → (D → Out → Prop) → Prop
  | .list ds, [], Q => Q (.list ds.reverse) (.val .none)
  | _, _, _ => False
theorem g_reverse {K : PySem.W.Frag} : OpMut K "list" rReverse isL gReverse where
  ty := fun M H d a o l => tyL o l
  run := fun M H d a ds vs Q ex hm o f w => by
    unfold gReverse at w
    split at w
    · obtain ⟨us, q, fl⟩ := o
      simp only [FzL] at f
      exact ⟨a, us, rfl, f, q, w _ ⟨_, upd_same, fl.reverse⟩ _ (fzn.mpr rfl)⟩
    · exact w.elim
  mono := fun d ds Q Q' h w => by
    unfold gReverse at w ⊢
    split at w
    · exact h _ _ w
    · exact w.elim
def gExtend : D → List D → (D → Out → Prop) → Prop
  | .list ds, [.list es], Q => ds.length + es.length ≤ 100000 ∧ Q (.list (ds ++ es)) (.val .none)
  | _, _, _ => False
theorem g_extend {K : PySem.W.Frag} : OpMut K "list" rExtend isL gExtend where
  ty := fun M H d a o l => tyL o l
  run := fun M H d a ds vs Q ex hm o f w => by
    unfold gExtend at w
    split at w
    · obtain ⟨us, q, fl⟩ := o
      obtain ⟨v, rfl, fv⟩ := fzl1 f
      simp only [Fz] at fv
      obtain ⟨b, zs, rfl, hb, fz⟩ := fv
      exact ⟨a, b, us, zs, rfl, rfl, q, ex _ _ hb, by rw [← fl.length, ← fz.length]; exact line_of w.1, w.2 _ ⟨_, upd_same, fl.append fz⟩ _ (fzn.mpr rfl)⟩
    · exact w.elim
  mono := fun d ds Q Q' h w => by
    unfold gExtend at w ⊢
    split at w
    · exact ⟨w.1, h _ _ w.2⟩
    · exact w.elim
/-! ### zip of two lists, of two tuples -/
def zipR (ds es : List D) : List Res := (ds.zip es).map fun p => .ow (.tuple [p.1, p.2])
def sameSeq : D → D → Option (List D × List D)
  | .list ds, .list es => some (ds, es)
  | .tuple ds, .tuple es => some (ds, es)
  | _, _ => none
def wZip (fs : DA) : DI := fun e Q => fs e fun rs e1 => ∃ d1 d2 e2 p, frzAll e1 rs = some ([d1, d2], e2) ∧ sameSeq d1 d2 = some p ∧ Q (zipR p.1 p.2) e2
theorem zipR_get {ds es : List D} {i : Nat} {r : Res} (h : (zipR ds es)[i]? = some r) : ∃ x y, ds[i]? = some x ∧ es[i]? = some y ∧ r = .ow (.tuple [x, y]) := by
  unfold zipR at h
  rw [List.getElem?_map, Option.map_eq_some_iff] at h
  obtain ⟨⟨x, y⟩, h, rfl⟩ := h
  rw [List.getElem?_zip_eq_some] at h
  exact ⟨x, y, h.1, h.2, rfl⟩
theorem zipR_len {ds es : List D} : (zipR ds es).length = min ds.length es.length := by simp [zipR]
theorem two_fz {K : PySem.W.Frag} {M : Hp} {d1 d2 : D} {vs : List V} (h : FzL K M [d1, d2] vs) : ∃ v w, vs = [v, w] ∧ Fz K M d1 v ∧ Fz K M d2 w := by
  simp only [FzL] at h
  obtain ⟨v, r, rfl, h1, w, r2, rfl, h2, rfl⟩ := h
  exact ⟨v, w, rfl, h1, h2⟩
theorem fi_zip {e e2 : Expr} {fs : DA} {p pos tpos : Pos} {elts : List Expr} {kk : Nat} (hg : Gl X "zip") (hm : X.mg "zip" = none) (ha : FA X [e, e2] fs)
    (hs : starEach [e, e2] X.env = (false, eval e X.env) :: starEach [e2] X.env := by rfl) (hpl : (backTo pos (starEach [e2] X.env)).any (·.1) = false := by rfl) :
    FI X (.Tuple elts kk tpos) (.Call (.Name "zip" p) [e, e2] [] pos) (wZip fs) := by
  refine ⟨pi_imp (RZ.pi_zipA hg hm ha.pa hs hpl) ?_, fun e Q Q' h w => ha.mono _ _ _ (fun r e1 ⟨d1, d2, e2, p, h1, h2, w1⟩ => ⟨d1, d2, e2, p, h1, h2, h _ _ w1⟩) w⟩
  rintro σ H R ⟨P, B, ios, e, T, r, w⟩
  refine ⟨P, B, ios, e, T, r, ha.mono _ _ _ (fun rs e1 w1 vs H1 hl h1 => ?_) w⟩
  obtain ⟨d1, d2, e2, ⟨ds, es⟩, hf, hsm, w1⟩ := w1
  obtain ⟨M, h1⟩ := h1
  obtain ⟨M2, x2, h2, ff⟩ := h1.freezeAll hl hf
  obtain ⟨v, u, rfl, f1, f2⟩ := two_fz ff
  clear ff
  have hfz : AllFz [(Res.fz d1, v), (Res.fz d2, u)] := fun t ht => by
    rcases List.mem_cons.mp ht with rfl | ht
    · exact ⟨_, rfl⟩
    · rw [List.mem_singleton] at ht; rw [ht]; exact ⟨_, rfl⟩
  have hr : Rep X.K P B ios e2 σ (T ++ [(.fz d1, v), (.fz d2, u)]) H1 := ⟨M2, h2⟩
  -- a turn's tuple
  have turn : ∀ {ios' : List (Nat × V)} {σ' : L2.St} {e' : DEnv} {T' : Tmp} {H' : Hp} {M3 : Hp} {x y : D} {a b : V} {tt : Addr}, RepM X.K P B M3 ios' e' σ' T' H' → Fz X.K M3 x a → Fz X.K M3 y b → H' tt = none →
      Rep X.K P B ios' e' σ' (T' ++ [(.ow (.tuple [x, y]), .ref tt)]) (upd H' tt (.tup [a, b])) := fun r3 fa fb hn =>
    ⟨_, (r3.alloc hn).push_ow ⟨[_, _], upd_same, .cons fa (.cons fb .nil)⟩ (.inl (r3.mh.none hn)) (r3.c.ph.none hn) fun i k d' h hk => r3.c.ne_new hn h hk⟩
  unfold sameSeq at hsm
  split at hsm
  · cases hsm
    simp only [Fz] at f1 f2
    obtain ⟨a, xs, rfl, qa, fa⟩ := f1
    obtain ⟨b, ys, rfl, qb, fb⟩ := f2
    refine ⟨a, b, xs, ys, rfl, .inl ⟨.inl (.inl (h2.mh _ _ qa)), .inl (.inl (h2.mh _ _ qb)), w1 _ _ _ hfz hr fun T1 hT => ⟨fun i ios' σ' e' T2 H' r ⟨M3, r3⟩ _ hi => ?_, fun i ios' σ' e' T2 H' ⟨M3, r3⟩ _ hi => ?_⟩⟩⟩
    · obtain ⟨x, y, hx, hy, rfl⟩ := zipR_get hi
      have g1 := r3.tfz (d := .list ds) (v := .ref a) (List.mem_append_left _ (hT _ (by simp)))
      have g2 := r3.tfz (d := .list es) (v := .ref b) (List.mem_append_left _ (hT _ (by simp)))
      simp only [Fz] at g1 g2
      obtain ⟨a', us, ea, qa', fa'⟩ := g1
      obtain ⟨b', ws, eb, qb', fb'⟩ := g2
      cases ea; cases eb
      obtain ⟨vx, hvx, fx⟩ := fa'.get hx
      obtain ⟨vy, hvy, fy⟩ := fb'.get hy
      have sa : SqL X.K H' a us := .inl (.inl (r3.mh _ _ qa'))
      have sb : SqL X.K H' b ws := .inl (.inl (r3.mh _ _ qb'))
      refine ⟨⟨us, ws, vx, vy, sa, sb, hvx, hvy⟩, fun z H2 hz => ?_⟩
      obtain ⟨tt, x', y', rfl, hn, rfl, k1, k2⟩ := hz
      have k1 := k1 us sa
      have k2 := k2 ws sb
      rw [hvx] at k1; rw [hvy] at k2
      cases k1; cases k2
      exact turn r3 fx fy hn
    · have g1 := r3.tfz (d := .list ds) (v := .ref a) (List.mem_append_left _ (hT _ (by simp)))
      have g2 := r3.tfz (d := .list es) (v := .ref b) (List.mem_append_left _ (hT _ (by simp)))
      simp only [Fz] at g1 g2
      obtain ⟨a', us, ea, qa', fa'⟩ := g1
      obtain ⟨b', ws, eb, qb', fb'⟩ := g2
      cases ea; cases eb
      rw [zipR_len] at hi
      dsimp only at hi
      have l1 := fa'.length
      have l2 := fb'.length
      exact ⟨us, ws, .inl (.inl (r3.mh _ _ qa')), .inl (.inl (r3.mh _ _ qb')), by omega⟩
  · cases hsm
    simp only [Fz] at f1 f2
    obtain ⟨a, xs, rfl, qa, fa⟩ := f1
    obtain ⟨b, ys, rfl, qb, fb⟩ := f2
    refine ⟨a, b, xs, ys, rfl, .inr ⟨h2.mh.t qa, h2.mh.t qb, w1 _ _ _ hfz hr fun T1 hT => ⟨fun i ios' σ' e' T2 H' r ⟨M3, r3⟩ _ hi => ?_, fun i ios' σ' e' T2 H' ⟨M3, r3⟩ _ hi => ?_⟩⟩⟩
    · obtain ⟨x, y, hx, hy, rfl⟩ := zipR_get hi
      have g1 := r3.tfz (d := .tuple ds) (v := .ref a) (List.mem_append_left _ (hT _ (by simp)))
      have g2 := r3.tfz (d := .tuple es) (v := .ref b) (List.mem_append_left _ (hT _ (by simp)))
      simp only [Fz] at g1 g2
      obtain ⟨a', us, ea, qa', fa'⟩ := g1
      obtain ⟨b', ws, eb, qb', fb'⟩ := g2
      cases ea; cases eb
      obtain ⟨vx, hvx, fx⟩ := fa'.get hx
      obtain ⟨vy, hvy, fy⟩ := fb'.get hy
      have sa : SqT X.K H' a us := r3.mh.t qa'
      have sb : SqT X.K H' b ws := r3.mh.t qb'
      refine ⟨⟨us, ws, vx, vy, sa, sb, hvx, hvy⟩, fun z H2 hz => ?_⟩
      obtain ⟨tt, x', y', rfl, hn, rfl, k1, k2⟩ := hz
      have k1 := k1 us sa
      have k2 := k2 ws sb
      rw [hvx] at k1; rw [hvy] at k2
      cases k1; cases k2
      exact turn r3 fx fy hn
    · have g1 := r3.tfz (d := .tuple ds) (v := .ref a) (List.mem_append_left _ (hT _ (by simp)))
      have g2 := r3.tfz (d := .tuple es) (v := .ref b) (List.mem_append_left _ (hT _ (by simp)))
      simp only [Fz] at g1 g2
      obtain ⟨a', us, ea, qa', fa'⟩ := g1
      obtain ⟨b', ws, eb, qb', fb'⟩ := g2
      cases ea; cases eb
      rw [zipR_len] at hi
      dsimp only at hi
      have l1 := fa'.length
      have l2 := fb'.length
      exact ⟨us, ws, r3.mh.t qa', r3.mh.t qb', by omega⟩
  · cases hsm
/-! ### enumerate of a list -/
def enumR (ds : List D) : List Res := (ds.mapIdx fun i d => .ow (.tuple [.int (i : Nat), d]))
def wEnum (fs : DA) : DI := fun e Q => fs e fun rs e1 => ∃ ds e2, frzAll e1 rs = some ([.list ds], e2) ∧ Q (enumR ds) e2
theorem enumR_get {ds : List D} {i : Nat} {r : Res} (h : (enumR ds)[i]? = some r) : ∃ x, ds[i]? = some x ∧ r = .ow (.tuple [.int (i : Nat), x]) := by
  unfold enumR at h
  rw [List.getElem?_mapIdx, Option.map_eq_some_iff] at h
  obtain ⟨x, h, rfl⟩ := h
  exact ⟨x, h, rfl⟩
theorem fi_enum {e : Expr} {fs : DA} {p pos tpos : Pos} {elts : List Expr} {kk : Nat} (hg : Gl X "enumerate") (hm : X.mg "enumerate" = none) (ha : FA X [e] fs) (hs : starEach [e] X.env = [(false, eval e X.env)] := by rfl) :
    FI X (.Tuple elts kk tpos) (.Call (.Name "enumerate" p) [e] [] pos) (wEnum fs) := by
  refine ⟨pi_imp (pi_enum hg hm ha.pa hs) ?_, fun e Q Q' h w => ha.mono _ _ _ (fun r e1 ⟨ds, e2, h1, w1⟩ => ⟨ds, e2, h1, h _ _ w1⟩) w⟩
  rintro σ H R ⟨P, B, ios, e, T, r, w⟩
  refine ⟨P, B, ios, e, T, r, ha.mono _ _ _ (fun rs e1 w1 vs H1 hl h1 => ?_) w⟩
  obtain ⟨ds, e2, hf, w1⟩ := w1
  obtain ⟨M, h1⟩ := h1
  obtain ⟨M2, x2, h2, f2⟩ := h1.freezeAll hl hf
  obtain ⟨v, rfl, f1⟩ := fzl1 f2
  have hfz : AllFz [(Res.fz (.list ds), v)] := fun t ht => by
    rw [List.mem_singleton] at ht; rw [ht]; exact ⟨_, rfl⟩
  simp only [Fz] at f1
  obtain ⟨a, xs, rfl, qa, fa⟩ := f1
  have hr : Rep X.K P B ios e2 σ (T ++ [(.fz (.list ds), .ref a)]) H1 := ⟨M2, h2⟩
  refine ⟨a, xs, rfl, .inl (.inl (h2.mh _ _ qa)), w1 _ _ _ hfz hr fun T1 hT => ⟨fun i ios' σ' e' T2 H' r ⟨M3, r3⟩ _ hi => ?_, fun i ios' σ' e' T2 H' ⟨M3, r3⟩ _ hi => ?_⟩⟩
  · obtain ⟨x, hx, rfl⟩ := enumR_get hi
    have g1 := r3.tfz (d := .list ds) (v := .ref a) (List.mem_append_left _ (hT _ (by simp)))
    simp only [Fz] at g1
    obtain ⟨a', us, ea, qa', fa'⟩ := g1
    cases ea
    obtain ⟨vx, hvx, fx⟩ := fa'.get hx
    have sa : SqL X.K H' a us := .inl (.inl (r3.mh _ _ qa'))
    refine ⟨⟨us, vx, sa, hvx⟩, fun z H2 hz => ?_⟩
    obtain ⟨tt, x', rfl, hn, rfl, k1⟩ := hz
    have k1 := k1 us sa
    rw [hvx] at k1; cases k1
    exact ⟨_, (r3.alloc hn).push_ow ⟨[_, _], upd_same, .cons (fzi.mpr rfl) (.cons fx .nil)⟩ (.inl (r3.mh.none hn)) (r3.c.ph.none hn) fun i k d' h hk => r3.c.ne_new hn h hk⟩
  · have g1 := r3.tfz (d := .list ds) (v := .ref a) (List.mem_append_left _ (hT _ (by simp)))
    simp only [Fz] at g1
    obtain ⟨a', us, ea, qa', fa'⟩ := g1
    cases ea
    have l1 := fa'.length
    exact ⟨us, .inl (.inl (r3.mh _ _ qa')), by rw [← l1]; simpa [enumR] using hi⟩
/-! ### a, b, .. = c, d, .. : any number of names, no slot's thing is shared by it -/
def fixRs : DEnv → List Res → Option (List Res × DEnv)
  | e, [] => some ([], e)
  | e, r :: rs => match fixR e r with
    | some (s, e1) => match fixRs e1 rs with
      | some (ss, e2) => some (s :: ss, e2)
      | none => none
    | none => none
def asgnAll : List Nat → List Res → DEnv → (DEnv → Prop) → Prop
  | [], [], e, Q => Q e
  | i :: is, s :: ss, e, Q => asgn i s e fun e1 => asgnAll is ss e1 Q
  | _, _, _, _ => False
theorem asgnAll_mono : ∀ (is : List Nat) (ss : List Res) e Q Q', (∀ e', Q e' → Q' e') → asgnAll is ss e Q → asgnAll is ss e Q'
  | [], [], e, Q, Q', h, w => h e w
  | i :: is, s :: ss, e, Q, Q', h, w => asgn_mono i _ _ _ _ (fun e1 w1 => asgnAll_mono is ss e1 Q Q' h w1) w
  | [], _ :: _, _, _, _, _, w => w
  | _ :: _, [], _, _, _, _, w => w
theorem fixRs_run {K : PySem.W.Frag} {P B : Hp} {ios : List (Nat × V)} {σ : L2.St} {H : Hp} : ∀ {rs ss : List Res} {vs : List V} {T : Tmp} {M : Hp} {e e' : DEnv}, RepM K P B M ios e σ (T ++ rs.zip vs) H → rs.length = vs.length → fixRs e rs = some (ss, e') →
    (∃ M', RepM K P B M' ios e' σ (T ++ ss.zip vs) H) ∧ ss.length = vs.length ∧ ∀ s ∈ ss, ∀ i, s ≠ .loc i
  | [], ss, [], T, M, e, e', r, hl, h => by cases h; exact ⟨⟨M, r⟩, rfl, fun s hs => by cases hs⟩
  | x :: rs, ss, v :: vs, T, M, e, e', r, hl, h => by
    unfold fixRs at h
    split at h
    · rename_i s e1 h1
      split at h
      · rename_i ss' e2 h2
        cases h
        obtain ⟨⟨M1, r1⟩, n1⟩ := fixR_run (T1 := T) (T2 := rs.zip vs) (by simpa using r) h1
        have r1' : RepM K P B M1 ios e1 σ ((T ++ [(s, v)]) ++ rs.zip vs) H := by simpa using r1
        obtain ⟨⟨M2, r2⟩, l2, n2⟩ := fixRs_run r1' (by simpa using hl) h2
        refine ⟨⟨M2, by simpa using r2⟩, by simp [l2], fun z hz => ?_⟩
        rcases List.mem_cons.mp hz with rfl | hz
        · exact n1
        · exact n2 z hz
      · cases h
    · cases h
  | [], _, _ :: _, _, _, _, _, _, hl, _ => by simp at hl
  | _ :: _, _, [], _, _, _, _, _, hl, _ => by simp at hl
theorem rot_get {α : Type} {A C : List α} {b : α} {i : Nat} (h : i < A.length + C.length + 1) : (A ++ C ++ [b])[i]? = (A ++ [b] ++ C)[if i < A.length then i else if i < A.length + C.length then i + 1 else A.length]? := by
  by_cases h1 : i < A.length
  · rw [if_pos h1, List.append_assoc, List.append_assoc, List.getElem?_append_left h1, List.getElem?_append_left h1]
  · rw [if_neg h1]
    by_cases h2 : i < A.length + C.length
    · rw [if_pos h2, List.getElem?_append_left (by rw [List.length_append]; exact h2), List.getElem?_append_right (by omega), List.getElem?_append_right (by simp; omega)]
      congr 1
      simp
      try omega
    · rw [if_neg h2, List.getElem?_append_right (by rw [List.length_append]; omega), List.getElem?_append_left (by simp), List.getElem?_append_right (Nat.le_refl _)]
      have : i - (A ++ C).length = 0 := by rw [List.length_append]; omega
      rw [this, Nat.sub_self]
theorem RepM.rot {K : PySem.W.Frag} {P B M : Hp} {ios : List (Nat × V)} {e : DEnv} {σ : L2.St} {T Z : Tmp} {H : Hp} {s : Res} {v : V} (r1 : RepM K P B M ios e σ (T ++ [(s, v)] ++ Z) H) : RepM K P B M ios e σ (T ++ Z ++ [(s, v)]) H := by
  refine ⟨?_, r1.el, fun j u q => ?_, r1.io⟩
  · have c := r1.c
    have eE : e ++ tE (T ++ Z ++ [(s, v)]) = (e ++ tE T) ++ tE Z ++ [tS s] := by rw [tE_app, tE_app]; simp [tE]
    have eE' : e ++ tE (T ++ [(s, v)] ++ Z) = (e ++ tE T) ++ [tS s] ++ tE Z := by rw [tE_app, tE_app]; simp [tE]
    have eV : σ ++ tV (T ++ Z ++ [(s, v)]) = (σ ++ tV T) ++ tV Z ++ [some v] := by rw [tV_app, tV_app]; simp [tV]
    have eV' : σ ++ tV (T ++ [(s, v)] ++ Z) = (σ ++ tV T) ++ [some v] ++ tV Z := by rw [tV_app, tV_app]; simp [tV]
    rw [eE', eV'] at c
    rw [eE, eV]
    have lA : (e ++ tE T).length = (σ ++ tV T).length := by simp [tE_len, tV_len, r1.el]
    have lC : (tE Z).length = (tV Z).length := by rw [tE_len, tV_len]
    have lt : ∀ {i : Nat} {x : Slot}, ((e ++ tE T) ++ tE Z ++ [tS s])[i]? = some x → i < (e ++ tE T).length + (tE Z).length + 1 := fun h => by
      have := (List.getElem?_eq_some_iff.mp h).1
      simpa [Nat.add_assoc] using this
    refine RepC.sub c (fun i => if i < (e ++ tE T).length then i else if i < (e ++ tE T).length + (tE Z).length then i + 1 else (e ++ tE T).length) (by simp only [List.length_append, lA, lC] at *; simp [tE_len, tV_len, r1.el]) (fun i j x y h1 h2 h => ?_) fun i x h => ?_
    · have l1 := lt h1
      have l2 := lt h2
      split at h <;> split at h <;> first | omega | (split at h <;> first | omega | (split at h <;> omega)) | skip
    · have l1 := lt h
      rw [rot_get l1] at h
      refine ⟨h, ?_⟩
      rw [rot_get (by rw [← lA, ← lC]; exact l1), ← lA, ← lC]
  · rcases List.mem_append.mp q with q | q
    · exact r1.loc j u (by
        rcases List.mem_append.mp q with q | q
        · exact List.mem_append_left _ (List.mem_append_left _ q)
        · exact List.mem_append_right _ q)
    · exact r1.loc j u (List.mem_append_left _ (List.mem_append_right _ q))
/-- names one behind another -/
structure FNames (X : Cx) (es : List Expr) (is : List Nat) : Prop where
  run : PGs X es (fun vs σ H Q => ∃ P B ios e T ss, NoLoc T ∧ Rep X.K P B ios e σ (T ++ ss.zip vs) H ∧ ss.length = vs.length ∧ (∀ s ∈ ss, ∀ i, s ≠ .loc i) ∧ asgnAll is ss e fun e' => ∀ σ' H', Rep X.K P B ios e' σ' T H' → Q σ' H')
theorem fn_nil : FNames X [] [] := by
  refine ⟨pgs_imp pgs_nil ?_⟩
  rintro vs σ H Q ⟨P, B, ios, e, T, ss, nl, r, hl, hn, w⟩
  match ss, vs, hl, w with
  | [], [], _, w => exact ⟨rfl, w σ H (by simpa using r)⟩
theorem fn_cons {a : Expr} {es : List Expr} {i : Nat} {is : List Nat} (h1 : PG X a (gName i)) (h2 : FNames X es is) (hs : (assignEach (a :: es) X.env).map (·.2) = assign a X.env :: (assignEach es X.env).map (·.2) := by rfl) : FNames X (a :: es) (i :: is) := by
  refine ⟨pgs_imp (pgs_cons h1 h2.run hs) ?_⟩
  rintro vs σ H Q ⟨P, B, ios, e, T, ss, nl, ⟨M, r⟩, hl, hn, w⟩
  match ss, vs, hl, w with
  | s :: ss, v :: vs, hl, w =>
    refine ⟨v, vs, rfl, ?_⟩
    have nz : NoLoc (ss.zip vs) := fun t ht j z => hn t.1 (List.mem_cons_of_mem _ (List.of_mem_zip (show (t.1, t.2) ∈ _ from ht)).1) j z
    have r1 : RepM X.K P B M ios e σ (T ++ [(s, v)] ++ ss.zip vs) H := by simpa using r
    -- the first one taken to the end
    have r2 := r1.rot
    exact asgn_run (K := X.K) ⟨P, B, ios, e, T ++ ss.zip vs, s, (nl.app nz).j _, ⟨M, r2⟩, asgn_mono _ _ _ _ _ (fun e1 w1 σ1 H1 _ r3 => ⟨P, B, ios, e1, T, ss, nl, r3, by simpa using hl, fun z hz => hn z (List.mem_cons_of_mem _ hz), w1⟩) w⟩
def wParN (is : List Nat) (f : DA) : DS := fun D e => f e fun rs e1 => rs.length = is.length ∧ rs.length ≤ 1000 ∧ ∃ ss e2, fixRs e1 rs = some (ss, e2) ∧ asgnAll is ss e2 D.nx
theorem fs_parN {es ts : List Expr} {is : List Nat} {fa : DA} {k k2 : Nat} {pt pt2 pos : Pos} {n : Nat} (hc : X.calm = true) (ha : FA X es fa) (hn : FNames X ts is) (hl : is.length = n) (hlen : (assignEach ts X.env).length = n := by rfl) (hst : (assignEach ts X.env).findIdx? (·.1) = none := by rfl)
    (hs : swapsWithSole [.Tuple ts k pt] (.Tuple es k2 pt2) pos.line X.env = pure false := by rfl) (hw : swappedStores [.Tuple ts k pt] (.Tuple es k2 pt2) X.env = pure none := by rfl)
    (h1 : (assignEach [.Tuple ts k pt] X.env).map (·.2) = [assign (.Tuple ts k pt) X.env] := by rfl) : FS X (.Assign [.Tuple ts k pt] (.Tuple es k2 pt2) pos) (wParN is fa) := by
  refine ⟨ps_imp (ps_asg (pe_tup ha.pa) (pg_tup hc hn.run hlen hst) hs hw h1) ?_, fun D D' e h w => ha.mono _ _ _ (fun rs e1 ⟨a1, a2, ss, e2, a3, w1⟩ => ⟨a1, a2, ss, e2, a3, asgnAll_mono _ _ _ _ _ h.nx w1⟩) w⟩
  rintro D σ H ⟨P, B, ios, e, T, nl, r, w⟩
  refine ⟨P, B, ios, e, T, r, ha.mono _ _ _ (fun rs e1 w1 vs H1 hl1 h1 => ?_) w⟩
  obtain ⟨a1, a2, ss, e2, a3, w1⟩ := w1
  refine ⟨by rw [← hl1]; exact le_line a2, fun p hp => ?_⟩
  obtain ⟨M, h1⟩ := h1
  obtain ⟨⟨M2, r2⟩, l2, n2⟩ := fixRs_run h1 hl1 a3
  refine ⟨p, vs, rfl, .inl (.inl upd_same), by rw [← hl1, a1, hl], P, B, ios, e2, T, ss, nl, ⟨M2, r2.alloc hp⟩, l2, n2, asgnAll_mono _ _ _ _ _ (fun e' w' σ' H' r' => w' σ' H' r') w1⟩
end
end PL
set_option Elab.async false
set_option linter.all false
set_option autoImplicit false
set_option maxRecDepth 100000
set_option maxHeartbeats 4000000
/-! PLu: sorted of a dict. -/
namespace PL
open PySem PySem.Spec PyProof.Rows L2
theorem reads_kD {h : Heap} {k : Key} {v : Value} {as : List Addr} (r : Reads h v (kD k) as) : as = [] := by
  cases k <;> (unfold kD at r; cases r; rfl)
theorem readsAll_kD {h : Heap} : ∀ {ks : List Key} {vs : List Value} {as : List Addr}, ReadsAll h vs (ks.map kD) as → as = []
  | [], _, _, r => by cases r; rfl
  | k :: ks, _, _, r => by
    cases r with
    | cons r1 r2 => rw [reads_kD r1, readsAll_kD r2]; rfl
theorem reads_tD {h : Heap} {k : List Key} {v : Value} {as : List Addr} (r : Reads h v (tD k) as) : as = [] := by
  unfold tD at r
  cases r with
  | tuple _ _ _ r4 => exact readsAll_kD r4
section
variable {X : Cx}
def rSortB (K : PySem.W.Frag) : List V → Hp → VK → Prop := fun xs H Q => ∃ (a : Addr), xs = [.ref a] ∧
  ((∃ kvs : List (Key × V), Rd H a (.dK kvs) ∧ (∀ p ∈ kvs, (kD p.1).canLay0 = true ∧ (kD p.1).depth ≤ 64) ∧ PySem.W.AllAlike (kvs.map fun p => kD p.1) ∧ PySem.W.Sortable (kvs.map fun p => kD p.1) ∧
    ∀ l, H l = none → Q (.ref l) (upd H l (.lst (((kvs.map fun p => (kV p.1, kD p.1)).mergeSort (PySem.W.dataLe false Prod.snd)).map Prod.fst)))) ∨
  (∃ kvs : List (List Key × V), Rd H a (.dT kvs) ∧ (∀ p ∈ kvs, p.1 ≠ [] ∧ (tD p.1).canLay0 = true ∧ (tD p.1).depth ≤ 64) ∧ PySem.W.AllAlike (kvs.map fun p => tD p.1) ∧ PySem.W.Sortable (kvs.map fun p => tD p.1) ∧
    ∀ l bs, H l = none → IsKeys H kvs bs → Q (.ref l) (upd H l (.lst ((((bs.map V.ref).zip (kvs.map fun p => tD p.1)).mergeSort (PySem.W.dataLe false Prod.snd)).map Prod.fst)))))
theorem sorted_kdl {pins : List (Addr × Obj)} {σ : L2.St} {H : Hp} {s : Shared} {T : String} {r d : Addr} {n : Nat} {P : Nat → Value → Prop} {OK : Heap → Prop} {ps : List (V × D)} {Q : Value → Shared → Prop} {E : Value → Shared → Prop}
    (K : PySem.W.KdlSrc X.prog X.w T r d n P OK) (hcalm : X.calm = true) (hu : X.A.units + 130 < cLine) (I : Inv X pins σ H s) (hok : OK s.heap) (hn : n ≤ sizeLine) (hp : ps.length = n)
    (hv : ∀ acc : Array Value, ItemsOf P acc n → Vals (ps.map Prod.fst) acc.toList) (hd : ∀ p ∈ ps, Dp X.K H p.1 p.2 ∧ p.2.depth ≤ 64) (hne : ∀ p ∈ ps, ∀ (h : Heap) (v : Value) (as : List Addr), Reads h v p.2 as → as = [])
    (hal : PySem.W.AllAlike (ps.map Prod.snd)) (hso : PySem.W.Sortable (ps.map Prod.snd))
    (q : ∀ l s', H l = none → Inv X pins σ (upd H l (.lst ((ps.mergeSort (PySem.W.dataLe false Prod.snd)).map Prod.fst))) s' → Q (.ref l) s') :
    wpAny (model X.prog X.w) X.A (call (.builtin "sorted") [.ref r]) Q E s := by
  refine Calls.call_function_entry PyProof.Rows.kind_sorted PyProof.Rows.plain_sorted PyProof.Rows.entry_sorted (PyProof.Rows.args_sorted1 _) ?_
  unfold Builtin.«sorted»
  refine wpAny_bind (m := checkCount "sorted" 1 1 _) (wpAny_pure ?_)
  refine wpAny_bind (PySem.W.kdu_collect (A := X.A.in1) K (I.ok.hd hcalm) hok hn fun h' tk acc hk hacc => ?_)
  have hal1 : acc.toList.length = ps.length := by rw [Array.length_toList, hacc.1, hp]
  have I1 : Inv X pins σ H { s with heap := h', toks := tk } := I.kept hk
  refine wpAny_bind (wpAny_newList ?_ (by rw [hal1]; omega))
  have hoL : (h'.push (seqObj "list" acc.toList.toArray 0)).get? h'.objs.size = some (seqObj "list" acc.toList.toArray 0) := Heap.get?_push_size _ rfl
  show wpAny _ _ _ _ _ { s with heap := h'.push (seqObj "list" acc.toList.toArray 0), toks := tk }
  have rv := hv acc hacc
  have e1 : PySem.W.EachIs (fun u (p : V × D) => RelV p.1 u) acc.toList ps := each_of rv fun p _ u h => h
  have e2 : PySem.W.EachIs (fun u (p : V × D) => ∃ as, Reads (h'.push (seqObj "list" acc.toList.toArray 0)) u p.2 as ∧ h'.objs.size ∉ as) acc.toList ps := each_of rv fun p hp u h => by
    obtain ⟨as, ra⟩ := Dp.reads I1 p.2 p.1 u (hd p hp).1 h
    have := hne p hp _ _ _ ra
    subst this
    exact ⟨[], PyProof.Rows.Reads.keeps (fun b o e => Heap.get?_push_of_some _ e) ra, by simp⟩
  refine wpAny_bind (wpAny_holding ?_)
  refine PySem.W.list_sort_data (s := { s with heap := h'.push (seqObj "list" acc.toList.toArray 0), toks := tk }) hoL e1 e2 hal hso (by omega) (fun b hb => ?_) fun out ho eo => ?_
  · have := (hd b hb).2
    simp only [units_in1]
    omega
  obtain ⟨e', he'⟩ := PyProof.Rows.sortedHeap_at (vs := acc.toList) (out := List.toArray out) hoL
  refine wpAny_pure ⟨_, rfl, q _ _ (I1.hok.fresh (Nat.le_refl _)) (I1.laid (t' := tk) (fun b u e => ?_) (Nat.le_refl _) ⟨?_, out, e', of_each eo, he'⟩)⟩
  · have hb : b < h'.objs.size := Heap.lt_size e
    rw [PyProof.Rows.sortedHeap_old (Nat.ne_of_lt hb) (by rw [size_push']; exact Nat.lt_succ_of_lt hb)]
    exact Heap.get?_push_of_some _ e
  · rw [List.length_map, List.length_mergeSort]; omega
theorem fz_kVk {K : PySem.W.Frag} {M : Hp} (k : Key) : Fz K M (kD k) (kV k) := by
  cases k <;> simp [kD, kV, Fz]
theorem fzl_kVk {K : PySem.W.Frag} {M : Hp} : ∀ (ks : List Key), FzL K M (ks.map kD) (ks.map kV)
  | [] => .nil
  | k :: ks => .cons (fz_kVk k) (fzl_kVk ks)
theorem pairs_kD : ∀ (ks : List Key), ks ≠ [] → pairsOf (ks.map kD) = none
  | [], h => absurd rfl h
  | k :: ks, _ => by cases k <;> simp [kD, pairsOf, pairOf]
theorem fz_tVk {K : PySem.W.Frag} {M : Hp} {b : Addr} {k : List Key} (hb : M b = some (.tup (k.map kV))) (hn : k ≠ []) : Fz K M (tD k) (.ref b) := by
  unfold tD
  simp only [Fz]
  exact ⟨b, _, rfl, ⟨.inl (.inl hb), fun z => absurd (pairs_kD k hn) z⟩, fzl_kVk k⟩
theorem keys_zip {H : Hp} {K : PySem.W.Frag} : ∀ {kvs : List (List Key × V)} {bs : List Addr}, IsKeys H kvs bs → (∀ p ∈ kvs, p.1 ≠ []) → ∀ p ∈ (bs.map V.ref).zip (kvs.map fun p => tD p.1), Fz K H p.2 p.1 ∧ ∃ q ∈ kvs, p.2 = tD q.1
  | _, _, .nil, _, p, h => by simp at h
  | _, _, .cons (a := q) e r, hn, p, h => by
    rw [List.map_cons, List.map_cons, List.zip_cons_cons] at h
    rcases List.mem_cons.mp h with rfl | h
    · exact ⟨fz_tVk e (hn q (by simp)), q, by simp, rfl⟩
    · obtain ⟨f, q', hq, e'⟩ := keys_zip r (fun p hp => hn p (List.mem_cons_of_mem _ hp)) p h
      exact ⟨f, q', List.mem_cons_of_mem _ hq, e'⟩
theorem cr_sortB (hc : X.calm = true) (hu : X.A.units + 130 < cLine) : CallR X (.builtin "sorted") (rSortB X.K) := by
  intro pins s σ H xs us Q I r h
  obtain ⟨a, rfl, h⟩ := h
  obtain ⟨u, rfl, rx⟩ := vals1 r
  have eu : u = Value.ref a := rx
  subst eu
  rcases h with ⟨kvs, hd, hk, hal, hso, q⟩ | ⟨kvs, hd, hk, hal, hso, q⟩
  · obtain ⟨z, lo, vs, rel, dd⟩ := dk_rd I.hok hd
    obtain ⟨ep, hat⟩ := dd.dictAt
    have ek : (kvs.map fun kv => kV kv.1) = vs.map fun p => kV p.1 := by
      have e := congrArg (List.map kV) rel.keys
      rw [List.map_map, List.map_map] at e
      exact e
    have e1 : (kvs.map fun p => (kV p.1, kD p.1)).map Prod.fst = kvs.map fun kv => kV kv.1 := by rw [List.map_map]; rfl
    have e2 : (kvs.map fun p => (kV p.1, kD p.1)).map Prod.snd = kvs.map fun kv => kD kv.1 := by rw [List.map_map]; rfl
    refine sorted_kdl (ps := kvs.map fun p => (kV p.1, kD p.1)) (PySem.W.kdl_dict (knd := mixKind X.prog X.w) (kvs := vs) (ep := ep) lo) hc hu I hat (by rw [← rel.length]; exact z) (by rw [List.length_map]; exact rel.length) (fun acc hacc => ?_) (fun p hp => ?_) (fun p hp => ?_) (by rw [e2]; exact hal) (by rw [e2]; exact hso) fun l s' hl I' => ⟨.ref l, _, I', rfl, q l hl⟩
    · rw [e1, ek]
      exact keys_at (by rw [Array.length_toList]; exact hacc.1) fun j v e => hacc.2 j v (by rw [← Array.getElem?_toList]; exact e)
    · obtain ⟨q0, h0, rfl⟩ := List.mem_map.mp hp
      exact ⟨fz_dp (Ex.refl _) _ _ (hk q0 h0).1 (fz_kVk (M := H) q0.1), (hk q0 h0).2⟩
    · obtain ⟨q0, h0, rfl⟩ := List.mem_map.mp hp
      exact fun h v as r => reads_kD r
  · obtain ⟨z, hs, ks, pr, o, es, ep, ho, hx, hdt, he, hn⟩ := (show ObjOk X.prog X.w H s.heap a (.dT kvs) from hd.ok I.hok)
    have l1 : es.size = ks.length := size_of_entries he
    have l2 : kvs.length = ks.length := Paired.length pr
    have ik := isKeys_of pr
    have lz : ((ks.map fun x => x.2.1).map V.ref).length = (kvs.map fun p => tD p.1).length := by simp [l2]
    have z1 := zip_fst lz
    have z2 := zip_snd lz
    refine sorted_kdl (ps := ((ks.map fun x => x.2.1).map V.ref).zip (kvs.map fun p => tD p.1)) (kdl_raw hs hx hdt) hc hu I ho (by omega) (by rw [List.length_zip, lz, Nat.min_self, List.length_map]; omega) (fun acc' it => ?_) (fun p hp => ?_) (fun p hp => ?_) (by rw [z2]; exact hal) (by rw [z2]; exact hso) fun l s' hl I' => ⟨.ref l, _, I', rfl, q l _ hl ik⟩
    · rw [z1]
      have ea : acc'.toList = ks.map fun x => Value.ref x.2.1 := by
        have hl : acc'.toList.length = ks.length := by rw [Array.length_toList, it.1]; exact l1
        apply List.ext_getElem?
        intro j
        rw [List.getElem?_map]
        cases hj : acc'.toList[j]? with
        | none =>
          have h1 := List.getElem?_eq_none_iff.mp hj
          rw [List.getElem?_eq_none (by omega)]
          all_goals rfl
        | some v =>
          obtain ⟨en, hen, hv⟩ := it.2 j v (by rw [← Array.getElem?_toList]; exact hj)
          have qe := entry_at he j
          rw [hen] at qe
          cases hb : ks[j]? with
          | none =>
            rw [hb] at qe
            exact nomatch (show some en = none from qe)
          | some b =>
            rw [hb] at qe
            have e2 : en = entryOfKey (tupleKind (mixKind X.prog X.w)) b := Option.some.inj qe
            rw [hv, e2]
            all_goals rfl
      have eb : acc'.toList = (ks.map fun x => x.2.1).map Value.ref := by rw [ea, List.map_map]; all_goals rfl
      rw [eb]
      exact vals_refs _
    · obtain ⟨f, q0, h0, e0⟩ := keys_zip (K := X.K) ik (fun p hp => (hk p hp).1) p hp
      exact ⟨fz_dp (Ex.refl _) _ _ (by rw [e0]; exact (hk q0 h0).2.1) f, by rw [e0]; exact (hk q0 h0).2.2⟩
    · obtain ⟨f, q0, h0, e0⟩ := keys_zip (K := X.K) ik (fun p hp => (hk p hp).1) p hp
      rw [e0]
      exact fun h v as r => reads_tD r
/-- every tuple there is counts as frozen -/
def AllT (M H : Hp) : Prop := ∀ a vs, H a = some (.tup vs) → M a = some (.tup vs)
structure OpNT (K : PySem.W.Frag) (r : List V → Hp → VK → Prop) (g : List D → (Out → Prop) → Prop) : Prop where
  run : ∀ M H ds vs Q, Ex M H → AllT M H → VwL K M H ds vs → g ds (Gives K M H Q) → r vs H Q
  mono : ∀ ds Q Q', (∀ o, Q o → Q' o) → g ds Q → g ds Q'
theorem wNT_run {es : List Expr} {r : List V → Hp → VK → Prop} {g : List D → (Out → Prop) → Prop} {fs : DA} (hg : OpNT X.K r g) (ha : FA X es fs) (σ : L2.St) (H : Hp) (Q : VK) : tOf X.K (wN g fs) σ H Q → tCB r (aOf X.K fs) σ H Q := by
  rintro ⟨P, B, ios, e, T, h, w⟩
  refine ⟨P, B, ios, e, T, h, ha.mono _ _ _ (fun rs e1 w1 vs H1 hl h1 => ?_) w⟩
  obtain ⟨ds, l, w1⟩ := w1
  obtain ⟨M, h1⟩ := h1
  have h2 : RepM X.K P B (addT M H1) ios e1 σ _ H1 := ⟨h1.c.tups, h1.el, h1.loc, h1.io⟩
  exact hg.run _ H1 ds vs Q h2.mh (fun a vs z => addT_tup z) (h2.views hl l) (hg.mono _ _ _ (fun o q => gives_of h2.popN q) w1)
theorem wNT_mono {es : List Expr} {r : List V → Hp → VK → Prop} {g : List D → (Out → Prop) → Prop} {fs : DA} (hg : OpNT X.K r g) (ha : FA X es fs) : ∀ e Q Q', (∀ r e', Q r e' → Q' r e') → wN g fs e Q → wN g fs e Q' :=
  fun e Q Q' h w => ha.mono _ _ _ (fun rs e1 ⟨ds, l, w1⟩ => ⟨ds, l, hg.mono _ _ _ (fun o q => h _ _ q) w1⟩) w
theorem fe_callBT {a : Expr} {es : List Expr} {pos : Pos} {x : Str} {bid : String} {p : Pos} {r : List V → Hp → VK → Prop} {g : List D → (Out → Prop) → Prop} {fs : DA} (hc : CallR X (.builtin bid) r) (hg : OpNT X.K r g) (hgl : Gl X x) (hm : X.mg x = none) (hv : bootBuiltins x = some (.builtin bid)) (ha : FA X (a :: es) fs)
    (hn : x ≠ "__name__" := by decide) (hdb : (x == ("__debug__" : Str)) = false := by decide) (hs : starEach (a :: es) X.env = (false, eval a X.env) :: starEach es X.env := by rfl) (hp : (backTo pos (starEach es X.env)).any (·.1) = false := by rfl) :
    FE X (.Call (.Name x p) (a :: es) [] pos) (wN g fs) :=
  ⟨pe_imp (pe_callB hc hgl hm hv ha.pa hn hdb hs hp) (wNT_run hg ha), wNT_mono hg ha⟩
def keysD (kds : List (D × D)) : List D := if isTd kds then kds.tail.map Prod.fst else kds.map Prod.fst
def gSort (d : D) (Q : Out → Prop) : Prop := gSorted d Q ∨ ∃ kds, d = .dict kds ∧ PyData.canLayAll0 (keysD kds) = true ∧ (∀ e ∈ keysD kds, e ≠ .tuple [] ∧ e.depth ≤ 64) ∧ PySem.W.AllAlike (keysD kds) ∧ PySem.W.Sortable (keysD kds) ∧ Q (.new (.list (sortD (keysD kds))))
def rSort (K : PySem.W.Frag) : List V → Hp → VK → Prop := fun xs H Q => rSortA K xs H Q ∨ rSortB K xs H Q
theorem cr_sort (hc : X.calm = true) (hu : X.A.units + 130 < cLine) : CallR X (.builtin "sorted") (rSort X.K) := by
  intro pins s σ H xs us Q I r h
  rcases h with h | h
  · exact cr_sortA hu pins s σ H xs us Q I r h
  · exact cr_sortB hc hu pins s σ H xs us Q I r h
theorem fzl_pairs {K : PySem.W.Frag} {M : Hp} {ps : List (V × D)} {ds : List D} (e : ps.map Prod.snd = ds) (h : ∀ p ∈ ps, Fz K M p.2 p.1) : FzL K M (sortD ds) ((ps.mergeSort (PySem.W.dataLe false Prod.snd)).map Prod.fst) := by
  have := fzl_of_pairs (K := K) (M := M) (ps := ps.mergeSort (PySem.W.dataLe false Prod.snd)) fun p hp => h p (List.mem_mergeSort.mp hp)
  rw [sort_zip, e] at this
  exact this
theorem g_sort {K : PySem.W.Frag} : OpNT K (rSort K) (g1 gSort) where
  run := fun M H ds vs Q ex ht v w => by
    match ds, w with
    | [d], w =>
      rcases w with w | ⟨kds, rfl, c1, c2, c3, c4, w⟩
      · exact .inl (g_sorted.run M H [d] vs Q ex v w)
      · obtain ⟨x, rfl, v'⟩ := vwl1 v
        obtain ⟨a, rfl, v2⟩ := v'
        refine .inr ⟨a, rfl, ?_⟩
        rcases v2 with ⟨kvs, hd, qk, fl⟩ | ⟨kvs, hd, qk, fl⟩
        · have q' : kds.map Prod.fst = (kvs.map Prod.fst).map kD := by rw [qk, List.map_map]; rfl
          have ek : keysD kds = kvs.map fun p => kD p.1 := by unfold keysD; rw [not_td q']; exact qk
          rw [ek] at c1 c2 c3 c4 w
          refine .inl ⟨kvs, hd, fun p hp => ⟨canLay_mem c1 (List.mem_map.mpr ⟨p, hp, rfl⟩), (c2 _ (List.mem_map.mpr ⟨p, hp, rfl⟩)).2⟩, c3, c4, fun l hl => w l _ hl ⟨_, upd_same, fzl_pairs (by rw [List.map_map]; rfl) fun p hp => ?_⟩⟩
          obtain ⟨q0, h0, rfl⟩ := List.mem_map.mp hp
          exact fz_kVk q0.1
        · obtain ⟨t1, v0, rr, rfl, q2⟩ := td_of qk
          have ek : keysD ((.none, v0) :: rr) = kvs.map fun p => tD p.1 := by unfold keysD; rw [t1]; exact q2
          rw [ek] at c1 c2 c3 c4 w
          have hne : ∀ p ∈ kvs, p.1 ≠ [] := fun p hp z => (c2 _ (List.mem_map.mpr ⟨p, hp, rfl⟩)).1 (by unfold tD; rw [z]; rfl)
          refine .inr ⟨kvs, hd, fun p hp => ⟨hne p hp, canLay_mem c1 (List.mem_map.mpr ⟨p, hp, rfl⟩), (c2 _ (List.mem_map.mpr ⟨p, hp, rfl⟩)).2⟩, c3, c4, fun l bs hl ik => w l _ hl ⟨_, upd_same, fzl_pairs (zip_snd ?_) fun p hp => ?_⟩⟩
          · have := Paired.length ik
            simp [this]
          · have ik' : IsKeys M kvs bs := by
              unfold IsKeys at ik ⊢
              exact ik.mono fun p b e => ht _ _ e
            exact (keys_zip ik' hne p hp).1
  mono := fun ds Q Q' h w => by
    match ds, w with
    | [d], w =>
      rcases w with w | ⟨kds, rfl, c1, c2, c3, c4, w⟩
      · exact .inl ((g_sorted (K := K)).mono [d] Q Q' h w)
      · exact .inr ⟨kds, rfl, c1, c2, c3, c4, h _ w⟩
end
end PL
set_option Elab.async false
set_option linter.all false
set_option autoImplicit false
set_option maxRecDepth 100000
set_option maxHeartbeats 4000000
/-! PLv: equations for simp of the later readings: dicts, zip, enumerate, calls that only read. -/
namespace PL
open PySem PySem.Spec PyProof.Rows L2
section
variable {fa fb fc fo fi fk fx : DE} {g : DSp} {e : DEnv} {gs : DA}
theorem ex_some {α : Type} {o : Option α} : (∃ a, o = some a) = (o.isSome = true) := by cases o <;> simp
def fzd (r : Res) (k : D → Prop) (_t : Tag k := .mk) : Prop := match r with
  | .fz d => k d
  | _ => False
theorem fzd_fz {d : D} {k : D → Prop} {t : Tag k} : fzd (.fz d) k t = k d := rfl
theorem ex_fzd {r : Res} {k : D → Prop} : (∃ d, r = .fz d ∧ k d) = fzd r k := by cases r <;> simp [fzd]
theorem wGet1_eq {Q : Res → DEnv → Prop} : wGet1 fo fk e Q = fo e fun r e0 => (dicAt e0 r).isSome = true ∧ fk e0 fun rk e1 => bnd (dicAt e1 r) fun kds => bnd (look e1 rk) fun k => keyOk kds k = true ∧ Q (.fz ((lookD kds k).getD .none)) e1 := by
  simp only [wGet1, ex_some, ex2_bnd]
theorem ex4_bnd {α β γ δ : Type} {o : Option (α × β)} {p : β → Option γ} {q : β → Option δ} {k : α → β → γ → δ → Prop} : (∃ a b c d, o = some (a, b) ∧ p b = some c ∧ q b = some d ∧ k a b c d) = bnd o fun x => bnd (p x.2) fun c => bnd (q x.2) fun d => k x.1 x.2 c d := by
  simp only [bnd_iff]
  apply propext
  constructor
  · rintro ⟨a, b, c, d, h1, h2, h3, h4⟩; exact ⟨(a, b), h1, c, h2, d, h3, h4⟩
  · rintro ⟨⟨a, b⟩, h1, c, h2, d, h3, h4⟩; exact ⟨a, b, c, d, h1, h2, h3, h4⟩
theorem wGet2_eq {Q : Res → DEnv → Prop} : wGet2 fo fk fx e Q = fo e fun r e0 => (dicAt e0 r).isSome = true ∧ fk e0 fun rk e1 => fx e1 fun rx e2 => bnd (frz e2 rx) fun p => bnd (dicAt p.2 r) fun kds => bnd (look p.2 rk) fun k => keyOk kds k = true ∧ Q (.fz ((lookD kds k).getD p.1)) p.2 := by
  simp only [wGet2, ex_some, ex4_bnd (p := fun b => dicAt b _) (q := fun b => look b _)]
theorem wNewK_eq {Q : Res → DEnv → Prop} : wNewK e Q = Q (.ow (.dict [])) e := rfl
theorem wNewT_eq {Q : Res → DEnv → Prop} : wNewT e Q = Q (.ow (.dict [(.none, .none)])) e := rfl
theorem wTupO_eq {Q : Res → DEnv → Prop} : wTupO gs e Q = gs e fun rs e1 => rs.length ≤ 1000 ∧ bnd (frzAll e1 rs) fun p => Q (.ow (.tuple p.1)) p.2 := by simp only [wTupO, ex2p_bnd]
theorem wCallR_eq {n : Nat} {Q : Res → DEnv → Prop} : wCallR n g gs e Q = gs e fun rs e1 => bnd (lookRs e1 rs) fun ds => ds.length = n ∧ g ds fun r outs => r.good = true → outs.length = n → fzd r fun d => isScal d = true ∧ Q (.fz d) e1 := by
  simp only [wCallR, ex_bnd, ex_fzd]
theorem wParN_eq {is : List Nat} {D : DEnds} : wParN is gs D e = gs e fun rs e1 => rs.length = is.length ∧ rs.length ≤ 1000 ∧ bnd (fixRs e1 rs) fun p => asgnAll is p.1 p.2 D.nx := by simp only [wParN, ex2p_bnd]
theorem asgnAll_nil {Q : DEnv → Prop} : asgnAll [] [] e Q = Q e := rfl
theorem asgnAll_cons {i : Nat} {is : List Nat} {s : Res} {ss : List Res} {Q : DEnv → Prop} : asgnAll (i :: is) (s :: ss) e Q = asgn i s e fun e1 => asgnAll is ss e1 Q := rfl
def dcO (o : Option (Kd × D)) (k : Kd → List (D × D) → Prop) (_t : Tag k := .mk) : Prop := match o with
  | some (x, .dict ds) => k x ds
  | _ => False
theorem dcO_dict {x : Kd} {ds : List (D × D)} {k : Kd → List (D × D) → Prop} {t : Tag k} : dcO (some (x, .dict ds)) k t = k x ds := rfl
theorem dcO_iff {o : Option (Kd × D)} {k : Kd → List (D × D) → Prop} : dcO o k ↔ ∃ x ds, o = some (x, .dict ds) ∧ k x ds := by
  constructor
  · intro h
    match o, h with
    | some (x, .dict ds), h => exact ⟨x, ds, rfl, h⟩
  · rintro ⟨x, ds, rfl, h⟩
    exact h
theorem gsub_in {r rk : Res} {i : Nat} {Q : DEnv → Prop} : (∃ dv e3 ks k kds, frz e r = some (dv, e3) ∧ keyT e3 rk = some ks ∧ ks.all isK = true ∧ ownAt? e3 i = some (k, .dict kds) ∧ isTd kds = true ∧ kds.length < 100000 ∧ Q (e3.set i (some (k, .dict (putD kds (.tuple ks) dv))))) =
    bnd (frz e r) fun p => bnd (keyT p.2 rk) fun ks => ks.all isK = true ∧ dcO (ownAt? p.2 i) fun k kds => isTd kds = true ∧ kds.length < 100000 ∧ Q (p.2.set i (some (k, .dict (putD kds (.tuple ks) p.1)))) := by
  apply propext
  simp only [bnd_iff, dcO_iff]
  constructor
  · rintro ⟨dv, e3, ks, k, kds, h1, h2, h3, h4, h5, h6, h7⟩
    exact ⟨(dv, e3), h1, ks, h2, h3, k, kds, h4, h5, h6, h7⟩
  · rintro ⟨⟨dv, e3⟩, h1, ks, h2, h3, k, kds, h4, h5, h6, h7⟩
    exact ⟨dv, e3, ks, k, kds, h1, h2, h3, h4, h5, h6, h7⟩
theorem wGSubT_eq {r : Res} {Q : DEnv → Prop} : wGSubT fo fi r e Q = fo e fun ro e1 => locR ro fun i => fi e1 fun rk e2 => bnd (frz e2 r) fun p => bnd (keyT p.2 rk) fun ks => ks.all isK = true ∧ dcO (ownAt? p.2 i) fun k kds => isTd kds = true ∧ kds.length < 100000 ∧ Q (p.2.set i (some (k, .dict (putD kds (.tuple ks) p.1)))) := by
  simp only [wGSubT, gsub_in, ex_locR]
theorem zip_in {rs : List Res} {Q : List Res → DEnv → Prop} : (∃ d1 d2 e2 p, frzAll e rs = some ([d1, d2], e2) ∧ sameSeq d1 d2 = some p ∧ Q (zipR p.1 p.2) e2) = bnd (frzAll e rs) fun p => two p.1 fun d1 d2 => bnd (sameSeq d1 d2) fun q => Q (zipR q.1 q.2) p.2 := by
  apply propext
  rw [bnd_iff]
  constructor
  · rintro ⟨d1, d2, e2, q, h1, h2, h3⟩
    refine ⟨([d1, d2], e2), h1, ?_⟩
    show bnd (sameSeq d1 d2) fun q => Q (zipR q.1 q.2) e2
    rw [bnd_iff]
    exact ⟨q, h2, h3⟩
  · rintro ⟨⟨ds, e2⟩, h1, h2⟩
    match ds, h1, h2 with
    | [d1, d2], h1, h2 =>
      have h2' : bnd (sameSeq d1 d2) fun q => Q (zipR q.1 q.2) e2 := h2
      rw [bnd_iff] at h2'
      obtain ⟨q, h3, h4⟩ := h2'
      exact ⟨d1, d2, e2, q, h1, h3, h4⟩
theorem wZip_eq {Q : List Res → DEnv → Prop} : wZip gs e Q = gs e fun rs e1 => bnd (frzAll e1 rs) fun p => two p.1 fun d1 d2 => bnd (sameSeq d1 d2) fun q => Q (zipR q.1 q.2) p.2 := by
  simp only [wZip, zip_in]
theorem gIxA_list {ds : List D} {k : D} {Q : Out → Prop} : gIxA (.list ds) k Q = gIx (.list ds) k Q := rfl
theorem gIxA_tuple {ds : List D} {k : D} {Q : Out → Prop} : gIxA (.tuple ds) k Q = gIx (.tuple ds) k Q := rfl
theorem gIxA_str {z : Str} {k : D} {Q : Out → Prop} : gIxA (.str z) k Q = gIx (.str z) k Q := rfl
theorem gIxA_dict {kds : List (D × D)} {k : D} {Q : Out → Prop} : gIxA (.dict kds) k Q = (keyOk kds k = true ∧ bnd (lookD kds k) fun v => Q (.val v)) := by
  rw [← ex_bnd]; rfl
theorem gInA_list {neg : Bool} {ds : List D} {k : D} {Q : Out → Prop} : gInA neg k (.list ds) Q = gIn neg k (.list ds) Q := rfl
theorem gInA_tuple {neg : Bool} {ds : List D} {k : D} {Q : Out → Prop} : gInA neg k (.tuple ds) Q = gIn neg k (.tuple ds) Q := rfl
theorem gInA_str {neg : Bool} {z : Str} {k : D} {Q : Out → Prop} : gInA neg k (.str z) Q = gIn neg k (.str z) Q := rfl
theorem gInA_dict {neg : Bool} {kds : List (D × D)} {k : D} {Q : Out → Prop} : gInA neg k (.dict kds) Q = (keyOk kds k = true ∧ Q (.val (.bool (if neg then !(lookD kds k).isSome else (lookD kds k).isSome)))) := rfl
theorem gSetD_dict {kds : List (D × D)} {k d : D} {Q : D → Prop} : gSetD (.dict kds) k d Q = (isTd kds = false ∧ isK k = true ∧ kds.length < 100000 ∧ Q (.dict (putD kds k d))) := rfl
theorem gDict1_tuple {ds : List D} {Q : Out → Prop} : gDict1 (.tuple ds) Q = bnd (pairsOf ds) fun ps => Q (.new (.dict (mergeD [] ps))) := ex_bnd
theorem gDict1_list {ds : List D} {Q : Out → Prop} : gDict1 (.list ds) Q = bnd (pairsOf ds) fun ps => Q (.new (.dict (mergeD [] ps))) := ex_bnd
theorem gReverse_list {ds : List D} {Q : D → Out → Prop} : gReverse (.list ds) [] Q = Q (.list ds.reverse) (.val .none) := rfl
theorem gExtend_list {ds es : List D} {Q : D → Out → Prop} : gExtend (.list ds) [.list es] Q = (ds.length + es.length ≤ 100000 ∧ Q (.list (ds ++ es)) (.val .none)) := rfl
end
end PL
set_option Elab.async false
set_option linter.all false
set_option autoImplicit false
set_option maxRecDepth 100000
set_option maxHeartbeats 4000000
/-! PLw: data that can be shown; picks; names; houses. -/
namespace PL
open PySem PySem.Spec PyProof.Rows L2
theorem fzO_list {ds : List D} {e : DEnv} : fzO (.list ds) e = some (.list ds, e) := rfl
theorem fzO_dict {ds : List (D × D)} {e : DEnv} : fzO (.dict ds) e = some (.dict ds, e) := rfl
theorem fzO_ts {z : Str} {ds : List D} {e : DEnv} : fzO (.tuple (.str z :: ds)) e = some (.tuple (.str z :: ds), e) := rfl
theorem fzO_ti {z : Int} {ds : List D} {e : DEnv} : fzO (.tuple (.int z :: ds)) e = some (.tuple (.int z :: ds), e) := rfl
theorem fzO_tl {z : List D} {ds : List D} {e : DEnv} : fzO (.tuple (.list z :: ds)) e = some (.tuple (.list z :: ds), e) := rfl
/-! ### picks -/
theorem bnd_pick {xs : List D} {i : Int} {k : D → Prop} (P : D → Prop) (h0 : 0 ≤ i) (h1 : i < xs.length) (hP : ∀ x ∈ xs, P x) (hk : ∀ x, P x → k x) : bnd (atI xs i) k :=
  bnd_mk (atI_lt h0 h1) (hk _ (hP _ (List.getElem_mem _)))
theorem bnd_pickI {xs : List D} {i : Int} {k : D → Prop} (lo hi : Int) (h0 : 0 ≤ i) (h1 : i < xs.length) (hP : ∀ x ∈ xs, ∃ v : Int, x = .int v ∧ lo ≤ v ∧ v ≤ hi) (hk : ∀ v : Int, lo ≤ v → v ≤ hi → k (.int v)) : bnd (atI xs i) k :=
  bnd_pick (fun x => ∃ v : Int, x = .int v ∧ lo ≤ v ∧ v ≤ hi) h0 h1 hP fun x ⟨v, e, a, b⟩ => by rw [e]; exact hk v a b
theorem bnd_pickS {zs : List Str} {i : Int} {k : D → Prop} (h0 : 0 ≤ i) (h1 : i < zs.length) (hk : ∀ z ∈ zs, zs[i.toNat]? = some z → k (.str z)) : bnd (atI (zs.map PyData.str) i) k := by
  have hl : i < ((zs.map PyData.str).length : Nat) := by rw [List.length_map]; exact h1
  refine bnd_mk (atI_lt h0 hl) ?_
  rw [List.getElem_map]
  exact hk _ (List.getElem_mem _) (List.getElem?_eq_getElem _)
/-! ### data that can be shown -/
structure Lay (k w : Nat) (d : D) : Prop where
  c : d.canLay0 = true
  s : d.showable = true
  i : d.intsShort 13 = true
  dp : d.depth ≤ k
  w : d.weight ≤ w
structure LayAll (k w : Nat) (d : List D) : Prop where
  c : PyData.canLayAll0 d = true
  s : PyData.showableAll d = true
  i : PyData.intsShortAll 13 d = true
  dp : PyData.depthAll d ≤ k
  w : PyData.weightAll d ≤ w
theorem Lay.mono {k w k' w' : Nat} {d : D} (h : Lay k w d) (h1 : k ≤ k') (h2 : w ≤ w') : Lay k' w' d := ⟨h.c, h.s, h.i, Nat.le_trans h.dp h1, Nat.le_trans h.w h2⟩
theorem LayAll.mono {k w k' w' : Nat} {d : List D} (h : LayAll k w d) (h1 : k ≤ k') (h2 : w ≤ w') : LayAll k' w' d := ⟨h.c, h.s, h.i, Nat.le_trans h.dp h1, Nat.le_trans h.w h2⟩
theorem Lay.str {n : Nat} {z : Str} (h : TOk n z) : Lay 0 n (.str z) := ⟨h.strOk, rfl, rfl, Nat.le_refl _, h.l⟩
theorem Lay.none : Lay 0 0 .none := ⟨rfl, rfl, rfl, Nat.le_refl _, Nat.le_refl _⟩
theorem Lay.bool (b : Bool) : Lay 0 0 (.bool b) := ⟨rfl, rfl, by cases b <;> rfl, Nat.le_refl _, Nat.le_refl _⟩
theorem Lay.int {i : Int} (h0 : -1000000000000 < i) (h : i < 1000000000000) : Lay 0 40 (.int i) := by
  have hn : i.natAbs < 10 ^ 12 := by omega
  have hl : i.natAbs.log2 < 40 := by
    by_cases h0 : i.natAbs = 0
    · rw [h0]; decide
    · exact (Nat.log2_lt h0).mpr (Nat.lt_trans hn (by decide))
  refine ⟨rfl, ?_, ?_, Nat.le_refl _, ?_⟩
  · simp only [PyData.showable]; exact decide_eq_true (by omega)
  · have := PyData.shown_int_le hn
    simp only [PyData.intsShort]; exact decide_eq_true this
  · simp only [PyData.weight]
    split <;> omega
theorem LayAll.nil : LayAll 0 0 [] := ⟨rfl, rfl, rfl, Nat.le_refl _, Nat.le_refl _⟩
theorem LayAll.cons {k w w' : Nat} {d : D} {ds : List D} (h : Lay k w d) (h' : LayAll k w' ds) : LayAll k (w + 1 + w') (d :: ds) := by
  refine ⟨?_, ?_, ?_, ?_, ?_⟩
  · rw [PyData.canLayAll0, h.c, h'.c]; rfl
  · rw [PyData.showableAll, h.s, h'.s]; rfl
  · rw [PyData.intsShortAll, h.i, h'.i]; rfl
  · rw [PyData.depthAll]; exact Nat.max_le.mpr ⟨h.dp, h'.dp⟩
  · rw [PyData.weightAll]; have := h.w; have := h'.w; omega
theorem LayAll.tuple {k w : Nat} {ds : List D} (h : LayAll k w ds) : Lay (k + 1) w (.tuple ds) := by
  refine ⟨?_, ?_, ?_, ?_, ?_⟩
  · rw [PyData.canLay0]; exact h.c
  · rw [PyData.showable]; exact h.s
  · rw [PyData.intsShort]; exact h.i
  · rw [PyData.depth]; have := h.dp; omega
  · rw [PyData.weight]; exact h.w
theorem LayAll.list {k w : Nat} {ds : List D} (h : LayAll k w ds) : Lay (k + 1) w (.list ds) := by
  refine ⟨?_, ?_, ?_, ?_, ?_⟩
  · rw [PyData.canLay0]; exact h.c
  · rw [PyData.showable]; exact h.s
  · rw [PyData.intsShort]; exact h.i
  · rw [PyData.depth]; have := h.dp; omega
  · rw [PyData.weight]; exact h.w
theorem LayAll.all {k w : Nat} : ∀ {ds : List D}, (∀ d ∈ ds, Lay k w d) → LayAll k ((w + 1) * ds.length) ds
  | [], _ => LayAll.nil.mono (Nat.zero_le _) (Nat.zero_le _)
  | d :: ds, h => by
    refine ((LayAll.cons (h d (by simp)) (LayAll.all fun e he => h e (List.mem_cons_of_mem _ he)))).mono (Nat.le_refl _) ?_
    rw [List.length_cons, Nat.mul_succ]; omega
theorem LayAll.alln {k w : Nat} (n : Nat) {ds : List D} (h : ∀ d ∈ ds, Lay k w d) (hn : ds.length ≤ n) : LayAll k ((w + 1) * n) ds :=
  (LayAll.all h).mono (Nat.le_refl _) (Nat.mul_le_mul_left _ hn)
theorem Lay.sh {k w : Nat} {d : D} (h : Lay k w d) (hk : k ≤ 64) (hw : w ≤ 2 ^ 20) : d.canLay0 = true ∧ d.showable = true ∧ d.depth ≤ 64 ∧ d.shown.length ≤ sizeLine := by
  have h3 : d.depth ≤ 64 := Nat.le_trans h.dp hk
  have h4 : d.weight ≤ 2 ^ 20 := Nat.le_trans h.w hw
  exact ⟨h.c, h.s, h3, PyData.shown_fits_of_layable0 (B := 13) (by decide) (by decide) (by unfold PyData.layable0; rw [h.c, decide_eq_true h3, decide_eq_true h4]; rfl) h.i⟩
theorem Lay.shaped {k w : Nat} {d : D} (h : Lay k w d) (hk : k ≤ 64) : SeqAt.shaped d = true := by
  unfold SeqAt.shaped
  rw [h.c, decide_eq_true (Nat.le_trans h.dp hk)]; rfl
/-! ### sorted -/
theorem le_total : PySem.W.TotalLe (PySem.W.dataLe false (id : D → D)) := PySem.W.sortLe_total _ _ _
theorem sortD_perm (ds : List D) : (sortD ds).Perm ds := List.mergeSort_perm _ _
theorem sortD_mem {ds : List D} {d : D} : d ∈ sortD ds ↔ d ∈ ds := (sortD_perm ds).mem_iff
theorem sortD_len (ds : List D) : (sortD ds).length = ds.length := (sortD_perm ds).length_eq
theorem sortD_pw (ds : List D) : (sortD ds).Pairwise fun a b => PySem.W.dataLe false (id : D → D) a b = true := PySem.W.sort_pairwise le_total ds
theorem le_int {a b : Int} : PySem.W.dataLe false (id : D → D) (.int a) (.int b) = decide (a ≤ b) := by
  show (!lexLt PyProof.Rows.itemOrd [Sum.inl b] [Sum.inl a]) = _
  have : lexLt PyProof.Rows.itemOrd [Sum.inl b] [Sum.inl a] = decide (b < a) := by
    by_cases h : b = a
    · subst h
      rw [lex_self]
      rw [decide_eq_false (by omega)]; exact PyProof.Rows.lex_irrefl (O := PyProof.Rows.itemOrd) []
    · rw [lex_diff (fun q => h (Sum.inl.inj q))]
      rfl
  rw [this]
  by_cases h : a ≤ b
  · rw [decide_eq_true h, decide_eq_false (by omega)]; rfl
  · rw [decide_eq_false h, decide_eq_true (by omega)]; rfl
theorem sort_two (a b : Int) : ∃ c d : Int, sortD [.int a, .int b] = [.int c, .int d] ∧ c ≤ d ∧ ((c = a ∧ d = b) ∨ (c = b ∧ d = a)) := by
  have hp := sortD_perm [.int a, .int b]
  have hw := sortD_pw [.int a, .int b]
  have hl := sortD_len [.int a, .int b]
  match h : sortD [.int a, .int b], hl with
  | [x, y], _ =>
    rw [h] at hp hw
    have hx : x ∈ [PyData.int a, .int b] := hp.mem_iff.mp (by simp)
    have hy : y ∈ [PyData.int a, .int b] := hp.mem_iff.mp (by simp)
    have ha : PyData.int a ∈ [x, y] := hp.mem_iff.mpr (by simp)
    have hb : PyData.int b ∈ [x, y] := hp.mem_iff.mpr (by simp)
    simp only [List.mem_cons, List.not_mem_nil, or_false] at hx hy ha hb
    simp only [List.pairwise_cons, List.mem_cons, List.not_mem_nil, or_false, forall_eq] at hw
    have hw := hw.1
    rcases hx with rfl | rfl <;> rcases hy with rfl | rfl
    · rw [le_int, decide_eq_true_iff] at hw
      simp only [PyData.int.injEq, or_self] at hb
      subst hb
      exact ⟨_, _, rfl, hw, .inl ⟨rfl, rfl⟩⟩
    · rw [le_int, decide_eq_true_iff] at hw; exact ⟨_, _, rfl, hw, .inl ⟨rfl, rfl⟩⟩
    · rw [le_int, decide_eq_true_iff] at hw; exact ⟨_, _, rfl, hw, .inr ⟨rfl, rfl⟩⟩
    · rw [le_int, decide_eq_true_iff] at hw
      simp only [PyData.int.injEq, or_self] at ha
      subst ha
      exact ⟨_, _, rfl, hw, .inl ⟨rfl, rfl⟩⟩
theorem gSort_list {ds : List D} {Q : Out → Prop} (h1 : PyData.canLayAll0 ds = true) (h2 : ∀ e ∈ ds, e.depth ≤ 64) (h3 : PySem.W.AllAlike ds) (h4 : PySem.W.Sortable ds) (h : Q (.new (.list (sortD ds)))) : gSort (.list ds) Q :=
  .inl ⟨ds, rfl, ⟨h1, h2, h3, h4⟩, h⟩
theorem gSort_ints {ns : List Int} {Q : Out → Prop} (h : Q (.new (.list (sortD (ns.map .int))))) : gSort (.list (ns.map .int)) Q := by
  refine gSort_list ?_ ?_ ?_ ?_ h
  · clear h
    induction ns with
    | nil => rfl
    | cons n ns ih => rw [List.map_cons, PyData.canLayAll0, ih]; rfl
  · intro e he
    obtain ⟨n, _, rfl⟩ := List.mem_map.mp he
    exact Nat.zero_le _
  · intro d hd e he
    obtain ⟨n, _, rfl⟩ := List.mem_map.mp hd
    obtain ⟨m, _, rfl⟩ := List.mem_map.mp he
    rfl
  · right
    intro d hd
    obtain ⟨n, _, rfl⟩ := List.mem_map.mp hd
    exact ⟨fun z => (by cases z), fun xs z => (by cases z)⟩
/-! ### texts in lists -/
theorem flat_str {z : Str} : flat (.str z) = true := rfl
theorem flat_strs : ∀ {zs : List Str}, (zs.map PyData.str).all flat = true
  | [] => rfl
  | _ :: zs => by rw [List.map_cons, List.all_cons, flat_strs]; rfl
theorem inD_str {y : Str} : ∀ {zs : List Str}, inD (.str y) (zs.map .str) = decide (y ∈ zs)
  | [] => by simp [inD]
  | z :: zs => by
    have ih : (zs.map PyData.str).any (fun w => PyData.eqv w (.str y)) = decide (y ∈ zs) := inD_str
    show (PyData.eqv (.str z) (.str y) || (zs.map PyData.str).any fun w => PyData.eqv w (.str y)) = _
    rw [ih, eqv_str, Bool.eq_iff_iff, Bool.or_eq_true, beq_iff_eq, decide_eq_true_iff, decide_eq_true_iff, List.mem_cons]
    exact or_congr_left eq_comm
theorem ex_notin {α : Type} [DecidableEq α] : ∀ {cs zs : List α}, cs.Nodup → zs.length < cs.length → ∃ y ∈ cs, y ∉ zs
  | [], _, _, h => absurd h (Nat.not_lt_zero _)
  | c :: cs, zs, hn, h => by
    by_cases hc : c ∈ zs
    · rw [List.nodup_cons] at hn
      have hl := List.length_erase_of_mem hc
      have hp : 0 < zs.length := List.length_pos_of_mem hc
      have h2 : (zs.erase c).length < cs.length := by rw [List.length_cons] at h; omega
      obtain ⟨y, h3, h4⟩ := ex_notin hn.2 h2
      refine ⟨y, List.mem_cons_of_mem _ h3, fun h5 => h4 ((List.mem_erase_of_ne ?_).mpr h5)⟩
      intro e; subst e; exact hn.1 h3
    · exact ⟨c, by simp, hc⟩
theorem atI_map {ns : List Int} {k : Int} (h0 : 0 ≤ k) (h : k < ns.length) : ∃ m, atI (ns.map PyData.int) k = some (.int m) := by
  refine ⟨ns[k.toNat]'(by omega), ?_⟩
  rw [atI_lt h0 (by rw [List.length_map]; exact h), List.getElem_map]
theorem eqv_nil : PyData.eqv (.list []) (.list []) = true := by simp [PyData.eqv, PyData.eqvAll]
theorem eqv_cons_nil {d : D} {ds : List D} : PyData.eqv (.list (d :: ds)) (.list []) = false := by simp [PyData.eqv, PyData.eqvAll]
/-! ### names -/
structure NmOk (z : Str) : Prop where
  tok : TOk 8 z
  pos : 1 ≤ z.cps.toList.length
  let_ : ∀ c ∈ z.cps.toList, 97 ≤ c ∧ c < 123
theorem NmOk.ne {z : Str} (h : NmOk z) : z ≠ PySem.Str.ofString "" := by
  intro e
  have := h.pos
  rw [e] at this
  exact absurd this (by decide)
/-! ### houses -/
def pD (p : Str × Str) : D := .tuple [.str p.1, .str p.2]
def stD (p : Int × Str) : D := .tuple [.int p.1, .str p.2]
structure Rk where
  (num : Int) (who : Str) (rank : Int) (part : Str) (fst lst : Int)
def Rk.d (r : Rk) : D := .tuple [.int r.num, .str r.who, .int r.rank, .str r.part, .int r.fst, .int r.lst]
structure Lv where
  (num : Int) (giver taker part : Str) (fst lst most : Int)
def Lv.d (r : Lv) : D := .tuple [.int r.num, .str r.giver, .str r.taker, .str r.part, .int r.fst, .int r.lst, .int r.most]
structure Ru where
  (part : Str) (sum : Int) (seats : List (Int × Str))
def Ru.k (r : Ru) : D := .tuple [.str r.part, .int r.sum]
def Ru.v (r : Ru) : D := .tuple (r.seats.map stD)
def Ru.d (r : Ru) : D := .tuple [.str r.part, .int r.sum, r.v]
structure Ho where
  (parts : List (Str × Str)) (ranks : List Rk) (leaves : List Lv) (rules : List Ru)
def Ho.d (h : Ho) : D := .tuple [.tuple (h.parts.map pD), .tuple (h.ranks.map Rk.d), .tuple (h.leaves.map Lv.d), .tuple (h.rules.map Ru.d)]
/-- rows of parts as they are drawn -/
structure PsOk (names : List Str) (ps : List (Str × Str)) : Prop where
  len : ps.length ≤ 8
  fst : ∀ (i : Nat) (p : Str × Str), ps[i]? = some p → names[i]? = some p.1
  snd : ∀ (i : Nat) (p : Str × Str), ps[i]? = some p → p.2 = PySem.Str.ofString "" ∨ ∃ (j : Nat) (q : Str × Str), j < i ∧ ps[j]? = some q ∧ p.2 = q.1
structure RkOk (names own : List Str) (r : Rk) : Prop where
  n0 : 0 ≤ r.num
  n1 : r.num ≤ 1000
  who : r.who ∈ names
  r0 : 1 ≤ r.rank
  r1 : r.rank ≤ 9
  part : r.part ∈ own
  f0 : 0 ≤ r.fst
  fl : r.fst ≤ r.lst
  l1 : r.lst ≤ 99999
structure LvOk (names own : List Str) (r : Lv) : Prop where
  n0 : 0 ≤ r.num
  n1 : r.num ≤ 1000
  giver : r.giver ∈ names
  taker : r.taker ∈ names
  ne : r.giver ≠ r.taker
  part : r.part ∈ own
  f0 : 0 ≤ r.fst
  fl : r.fst ≤ r.lst
  l1 : r.lst ≤ 99999
  m0 : 0 ≤ r.most
  m1 : r.most ≤ 1000000000
structure RuOk (own : List Str) (r : Ru) : Prop where
  part : r.part ∈ own
  s0 : 0 ≤ r.sum
  s1 : r.sum ≤ 1000000000
  len : r.seats.length ≤ 6
  seats : ∀ s ∈ r.seats, 1 ≤ s.1 ∧ s.1 ≤ 9 ∧ (s.2 = PySem.Str.ofString "" ∨ s.2 ∈ own)
structure HoOk (names : List Str) (ps : List (Str × Str)) (h : Ho) : Prop where
  parts : h.parts.map pD = sortD (ps.map pD)
  rl : h.ranks.length ≤ 20
  rn : h.ranks.Pairwise fun a b => a.num < b.num
  rk : ∀ r ∈ h.ranks, RkOk names (ps.map Prod.fst) r
  ll : h.leaves.length ≤ 16
  ln : h.leaves.Pairwise fun a b => a.num < b.num
  lk : ∀ r ∈ h.leaves, LvOk names (ps.map Prod.fst) r
  ul : h.rules.length ≤ 10
  uk : ∃ rs : List Ru, (rs.map Ru.k).Nodup ∧ h.rules.map Ru.k = sortD (rs.map Ru.k)
  ur : ∀ r ∈ h.rules, RuOk (ps.map Prod.fst) r
end PL
set_option Elab.async false
set_option linter.all false
set_option autoImplicit false
set_option maxRecDepth 100000
set_option maxHeartbeats 4000000
/-! PLx: dicts of rules. -/
namespace PL
open PySem PySem.Spec PyProof.Rows L2
def Ru.kv (r : Ru) : D × D := (r.k, r.v)
def ruD (rs : List Ru) : List (D × D) := (.none, .none) :: rs.map Ru.kv
theorem Ru.k_inj {a b : Ru} (h : a.k = b.k) : a.part = b.part ∧ a.sum = b.sum := by
  unfold Ru.k at h
  simp only [PyData.tuple.injEq, List.cons.injEq, PyData.str.injEq, PyData.int.injEq, and_true] at h
  exact h
theorem Ru.k_ne {a : Ru} : a.k ≠ .none := fun h => by cases h
theorem td_ru {rs : List Ru} : isTd (ruD rs) = true := rfl
theorem keyOk_ru {rs : List Ru} {r : Ru} : keyOk (ruD rs) r.k = true := rfl
theorem look_ru : ∀ {rs : List Ru} {r : Ru}, (rs.map Ru.k).Nodup → r ∈ rs → lookD (ruD rs) r.k = some r.v := by
  intro rs r hn hr
  unfold ruD
  rw [lookD_ne (fun h => Ru.k_ne h.symm)]
  induction rs with
  | nil => cases hr
  | cons q rs ih =>
    rw [List.map_cons]
    rw [List.map_cons, List.nodup_cons] at hn
    show lookD ((q.k, q.v) :: rs.map Ru.kv) r.k = _
    rcases List.mem_cons.mp hr with rfl | hr
    · exact lookD_eq
    · rw [lookD_ne (fun h : q.k = r.k => hn.1 (by rw [h]; exact List.mem_map.mpr ⟨r, hr, rfl⟩))]
      exact ih hn.2 hr
theorem put_ru {rs : List Ru} (r : Ru) (hn : (rs.map Ru.k).Nodup) : ∃ rs', putD (ruD rs) r.k r.v = ruD rs' ∧ (rs'.map Ru.k).Nodup ∧ (∀ q ∈ rs', q ∈ rs ∨ q = r) ∧ rs'.length ≤ rs.length + 1 := by
  classical
  have key : ∀ {rs : List Ru}, (rs.map Ru.kv).map (fun p => @ite (D × D) (p.1 = r.k) (Classical.propDecidable _) (p.1, r.v) p) = (rs.map fun q => if q.k = r.k then r else q).map Ru.kv := by
    intro rs
    rw [List.map_map, List.map_map]
    apply List.map_congr_left
    intro q _
    show (@ite (D × D) (q.k = r.k) (Classical.propDecidable _) (q.k, r.v) (q.k, q.v)) = Ru.kv (if q.k = r.k then r else q)
    by_cases h : q.k = r.k
    · rw [if_pos h, if_pos h, h]; rfl
    · rw [if_neg h, if_neg h]; rfl
  unfold putD
  split
  · refine ⟨rs.map fun q => if q.k = r.k then r else q, ?_, ?_, ?_, ?_⟩
    · unfold ruD
      rw [List.map_cons, key]
      rw [if_neg (fun h => Ru.k_ne h.symm)]
    · have : (rs.map fun q => if q.k = r.k then r else q).map Ru.k = rs.map Ru.k := by
        rw [List.map_map]
        apply List.map_congr_left
        intro q _
        show Ru.k (if q.k = r.k then r else q) = q.k
        split
        · rename_i h; exact h.symm
        · rfl
      rw [this]; exact hn
    · intro q hq
      obtain ⟨p, hp, rfl⟩ := List.mem_map.mp hq
      split
      · exact .inr rfl
      · exact .inl hp
    · rw [List.length_map]; omega
  · rename_i hc
    refine ⟨rs ++ [r], ?_, ?_, ?_, ?_⟩
    · unfold ruD; rw [List.map_append]; rfl
    · rw [List.map_append, List.nodup_append]
      refine ⟨hn, by simp, fun a ha c hc2 => ?_⟩
      have : c = r.k := by simpa using hc2
      subst this
      intro e
      apply hc
      rw [List.any_eq_true]
      obtain ⟨q, hq, rfl⟩ := List.mem_map.mp ha
      exact ⟨q.kv, List.mem_cons_of_mem _ (List.mem_map.mpr ⟨q, hq, rfl⟩), decide_eq_true e⟩
    · intro q hq
      rcases List.mem_append.mp hq with h | h
      · exact .inl h
      · exact .inr (by simpa using h)
    · simp
theorem keys_ru {rs : List Ru} : keysD (ruD rs) = rs.map Ru.k := by
  unfold keysD
  rw [td_ru, if_pos rfl]
  show (rs.map Ru.kv).map Prod.fst = _
  rw [List.map_map]; rfl
theorem canLay_all {ds : List D} (h : ∀ d ∈ ds, d.canLay0 = true) : PyData.canLayAll0 ds = true := by
  induction ds with
  | nil => rfl
  | cons d ds ih => rw [PyData.canLayAll0, h d (by simp), ih fun e he => h e (List.mem_cons_of_mem _ he)]; rfl
theorem gSort_ru {rs : List Ru} {Q : Out → Prop} (hp : ∀ r ∈ rs, ∃ n, TOk n r.part) (h : Q (.new (.list (sortD (rs.map Ru.k))))) : gSort (.dict (ruD rs)) Q := by
  have hm : ∀ d ∈ rs.map Ru.k, ∃ r ∈ rs, d = r.k := fun d hd => by
    obtain ⟨r, hr, rfl⟩ := List.mem_map.mp hd
    exact ⟨r, hr, rfl⟩
  refine .inr ⟨_, rfl, ?_⟩
  rw [keys_ru]
  refine ⟨canLay_all fun d hd => ?_, fun d hd => ?_, fun d hd e he => ?_, .inl fun d hd => ?_, h⟩
  · obtain ⟨r, hr, rfl⟩ := hm d hd
    obtain ⟨n, hn⟩ := hp r hr
    unfold Ru.k
    rw [PyData.canLay0, PyData.canLayAll0, PyData.canLayAll0, PyData.canLayAll0, hn.strOk, PyData.canLay0]; rfl
  · obtain ⟨r, hr, rfl⟩ := hm d hd
    exact ⟨fun h => (by cases h), by unfold Ru.k; simp [PyData.depth, PyData.depthAll]⟩
  · obtain ⟨r, hr, rfl⟩ := hm d hd
    obtain ⟨q, hq, rfl⟩ := hm e he
    rfl
  · obtain ⟨r, hr, rfl⟩ := hm d hd
    exact ⟨_, _, rfl⟩
theorem gSort_ps {ps : List (Str × Str)} {Q : Out → Prop} (hp : ∀ p ∈ ps, (∃ n, TOk n p.1) ∧ ∃ n, TOk n p.2) (h : Q (.new (.list (sortD (ps.map pD))))) : gSort (.list (ps.map pD)) Q := by
  have hm : ∀ d ∈ ps.map pD, ∃ r ∈ ps, d = pD r := fun d hd => by
    obtain ⟨r, hr, rfl⟩ := List.mem_map.mp hd
    exact ⟨r, hr, rfl⟩
  refine gSort_list (canLay_all fun d hd => ?_) (fun d hd => ?_) (fun d hd e he => ?_) (.inl fun d hd => ?_) h
  · obtain ⟨r, hr, rfl⟩ := hm d hd
    obtain ⟨⟨n, hn⟩, m, hm⟩ := hp r hr
    unfold pD
    rw [PyData.canLay0, PyData.canLayAll0, PyData.canLayAll0, PyData.canLayAll0, hn.strOk, hm.strOk]; rfl
  · obtain ⟨r, hr, rfl⟩ := hm d hd
    unfold pD; simp [PyData.depth, PyData.depthAll]
  · obtain ⟨r, hr, rfl⟩ := hm d hd
    obtain ⟨q, hq, rfl⟩ := hm e he
    rfl
  · obtain ⟨r, hr, rfl⟩ := hm d hd
    exact ⟨_, _, rfl⟩
theorem nodup_inj {α : Type} {xs : List α} {i j : Nat} {a : α} (h : xs.Nodup) (h1 : xs[i]? = some a) (h2 : xs[j]? = some a) : i = j := by
  obtain ⟨i1, e1⟩ := List.getElem?_eq_some_iff.mp h1
  obtain ⟨i2, e2⟩ := List.getElem?_eq_some_iff.mp h2
  have := List.pairwise_iff_getElem.mp h
  rcases Nat.lt_trichotomy i j with q | q | q
  · exact absurd (e1.trans e2.symm) (this i j i1 i2 q)
  · exact q
  · exact absurd (e2.trans e1.symm) (this j i i2 i1 q)
/-- a list of images, sorted: images again -/
theorem sort_map {α : Type} (f : α → D) (xs : List α) : ∃ ys : List α, sortD (xs.map f) = ys.map f ∧ ys.Perm xs := by
  refine ⟨xs.mergeSort fun a b => PySem.W.dataLe false (id : D → D) (f a) (f b), ?_, List.mergeSort_perm _ _⟩
  unfold sortD
  rw [List.map_mergeSort]
  intro a _ b _; rfl
theorem PsOk.tok {zs : List Str} {ps : List (Str × Str)} (h : PsOk zs ps) (hz : ∀ z ∈ zs, NmOk z) : ∀ p ∈ ps, NmOk p.1 ∧ (p.2 = PySem.Str.ofString "" ∨ NmOk p.2) := by
  intro p hp
  obtain ⟨i, hi, rfl⟩ := List.mem_iff_getElem.mp hp
  have h1 := h.fst i _ (List.getElem?_eq_getElem hi)
  refine ⟨hz _ (List.mem_of_getElem? h1), ?_⟩
  rcases h.snd i _ (List.getElem?_eq_getElem hi) with q | ⟨j, q, _, h3, h4⟩
  · exact .inl q
  · rw [h4]; exact .inr (hz _ (List.mem_of_getElem? (h.fst j q h3)))
theorem tok_empty : TOk 0 (PySem.Str.ofString "") := ⟨by decide +kernel, by decide +kernel⟩
theorem PsOk.tok2 {zs : List Str} {ps : List (Str × Str)} (h : PsOk zs ps) (hz : ∀ z ∈ zs, NmOk z) : ∀ p ∈ ps, TOk 8 p.1 ∧ TOk 8 p.2 := by
  intro p hp
  obtain ⟨h1, h2⟩ := h.tok hz p hp
  refine ⟨h1.tok, ?_⟩
  rcases h2 with q | q
  · rw [q]; exact tok_empty.mono (by omega)
  · exact q.tok
theorem lay_two {a b : D} {n : Nat} (h : Lay 0 n a) (h' : Lay 0 n b) : Lay 1 (2 * n + 2) (.tuple [a, b]) := (LayAll.cons h (LayAll.cons h' (LayAll.nil.mono (w' := 0) (Nat.zero_le _) (Nat.zero_le _)))).tuple.mono (by omega) (by omega)
theorem lay_pD {p : Str × Str} (h : TOk 8 p.1 ∧ TOk 8 p.2) : Lay 1 18 (pD p) := lay_two (Lay.str h.1) (Lay.str h.2)
end PL
set_option Elab.async false
set_option linter.all false
set_option autoImplicit false
set_option maxRecDepth 100000
set_option maxHeartbeats 4000000
/-! PLy: parts over parts; dicts by texts; houses shown. -/
namespace PL
open PySem PySem.Spec PyProof.Rows L2
theorem LayAll.mem {k w : Nat} : ∀ {ds : List D}, LayAll k w ds → ∀ {d : D}, d ∈ ds → Lay k w d
  | x :: xs, h, d, hd => by
    have h1 := h.c; have h2 := h.s; have h3 := h.i; have h4 := h.dp; have h5 := h.w
    rw [PyData.canLayAll0, Bool.and_eq_true] at h1
    rw [PyData.showableAll, Bool.and_eq_true] at h2
    rw [PyData.intsShortAll, Bool.and_eq_true] at h3
    rw [PyData.depthAll, Nat.max_le] at h4
    rw [PyData.weightAll] at h5
    rcases List.mem_cons.mp hd with rfl | hd
    · exact ⟨h1.1, h2.1, h3.1, h4.1, by omega⟩
    · exact LayAll.mem (ds := xs) ⟨h1.2, h2.2, h3.2, h4.2, by omega⟩ hd
theorem LayAll.len {k w : Nat} : ∀ {ds : List D}, LayAll k w ds → ds.length ≤ w := by
  intro ds h
  have : ∀ ds : List D, ds.length ≤ PyData.weightAll ds := by
    intro ds
    induction ds with
    | nil => exact Nat.zero_le _
    | cons d ds ih => rw [PyData.weightAll, List.length_cons]; omega
  exact Nat.le_trans (this ds) h.w
theorem Lay.ofList {k w : Nat} {ds : List D} (h : Lay (k + 1) w (.list ds)) : LayAll k w ds :=
  ⟨by have := h.c; rwa [PyData.canLay0] at this, by have := h.s; rwa [PyData.showable] at this, by have := h.i; rwa [PyData.intsShort] at this, by have := h.dp; rw [PyData.depth] at this; omega, by have := h.w; rwa [PyData.weight] at this⟩
theorem Lay.ofTuple {k w : Nat} {ds : List D} (h : Lay (k + 1) w (.tuple ds)) : LayAll k w ds :=
  ⟨by have := h.c; rwa [PyData.canLay0] at this, by have := h.s; rwa [PyData.showable] at this, by have := h.i; rwa [PyData.intsShort] at this, by have := h.dp; rw [PyData.depth] at this; omega, by have := h.w; rwa [PyData.weight] at this⟩
theorem eqv_ln {ds : List D} : PyData.eqv (.list ds) .none = false := by simp [PyData.eqv]
theorem eqv_tn {ds : List D} : PyData.eqv (.tuple ds) .none = false := by simp [PyData.eqv]
theorem sameSeq_l {ds es : List D} : sameSeq (.list ds) (.list es) = some (ds, es) := rfl
theorem sameSeq_t {ds es : List D} : sameSeq (.tuple ds) (.tuple es) = some (ds, es) := rfl
theorem zipRR_get {ds : List D} {i : Nat} {r : Res} (h : (zipR ds ds)[i]? = some r) : ∃ d ∈ ds, r = .ow (.tuple [d, d]) := by
  unfold zipR at h
  rw [List.getElem?_map, Option.map_eq_some_iff] at h
  obtain ⟨⟨a, b⟩, h1, rfl⟩ := h
  rw [List.getElem?_zip_eq_some] at h1
  have : a = b := Option.some.inj (h1.1.symm.trans h1.2)
  subst this
  exact ⟨a, List.mem_of_getElem? h1.1, rfl⟩
theorem zipRR_len {ds : List D} : (zipR ds ds).length = ds.length := by simp [zipR]
theorem perm_of_map {α β : Type} {f : α → β} (inj : ∀ a b, f a = f b → a = b) {xs ys : List α} (h : (xs.map f).Perm (ys.map f)) : xs.Perm ys := by
  classical
  rw [List.perm_iff_count]
  intro a
  have := (List.perm_iff_count.mp h) (f a)
  have e : ∀ l : List α, (l.map f).count (f a) = l.count a := by
    intro l
    induction l with
    | nil => rfl
    | cons b l ih =>
      rw [List.map_cons, List.count_cons, List.count_cons, ih]
      by_cases hb : b = a
      · subst hb; simp
      · have : f b ≠ f a := fun q => hb (inj _ _ q)
        simp [hb, this]
  rw [e, e] at this
  exact this
/-! ### dicts by texts -/
theorem lookD_map {α : Type} (k : α → Str) (v : α → D) (z : Str) : ∀ xs : List α, lookD (xs.map fun x => (PyData.str (k x), v x)) (.str z) = (xs.find? fun x => k x == z).map v
  | [] => rfl
  | x :: xs => by
    rw [List.map_cons]
    by_cases h : k x = z
    · subst h
      rw [lookD_eq, List.find?_cons_of_pos (by simp)]; rfl
    · rw [lookD_ne (fun e => h (by injection e)), List.find?_cons_of_neg (by simpa using h)]
      exact lookD_map k v z xs
theorem putD_new {α : Type} (k : α → Str) (v : α → D) (z : Str) (d : D) (xs : List α) (h : ∀ x ∈ xs, k x ≠ z) : putD (xs.map fun x => (PyData.str (k x), v x)) (.str z) d = (xs.map fun x => (PyData.str (k x), v x)) ++ [(.str z, d)] := by
  unfold putD
  rw [if_neg]
  intro hc
  rw [List.any_eq_true] at hc
  obtain ⟨p, hp, he⟩ := hc
  obtain ⟨x, hx, rfl⟩ := List.mem_map.mp hp
  have he : PyData.str (k x) = PyData.str z := by simpa using he
  exact h x hx (by injection he)
theorem isTd_map {α : Type} (k : α → Str) (v : α → D) : ∀ xs : List α, isTd (xs.map fun x => (PyData.str (k x), v x)) = false
  | [] => rfl
  | _ :: _ => rfl
theorem keyOk_map {α : Type} (k : α → Str) (v : α → D) (z : Str) (xs : List α) : keyOk (xs.map fun x => (PyData.str (k x), v x)) (.str z) = true := by
  unfold keyOk
  rw [isTd_map]; rfl
theorem merge_new {α : Type} (k : α → Str) (v : α → D) : ∀ (ys xs : List α), ((xs ++ ys).map k).Nodup → mergeD (xs.map fun x => (PyData.str (k x), v x)) (ys.map fun x => (PyData.str (k x), v x)) = (xs ++ ys).map fun x => (PyData.str (k x), v x)
  | [], xs, _ => by rw [List.append_nil]; rfl
  | y :: ys, xs, h => by
    have h' : ((xs ++ [y] ++ ys).map k).Nodup := by rw [List.append_assoc]; exact h
    have hy : ∀ x ∈ xs, k x ≠ k y := by
      intro x hx e
      rw [List.map_append, List.nodup_append] at h
      exact h.2.2 (k x) (List.mem_map.mpr ⟨x, hx, rfl⟩) (k y) (by simp) e
    have := merge_new k v ys (xs ++ [y]) h'
    rw [List.append_assoc] at this
    refine Eq.trans ?_ this
    show mergeD (putD (xs.map fun x => (PyData.str (k x), v x)) (.str (k y)) (v y)) _ = _
    rw [putD_new k v _ _ _ hy, List.map_append]; rfl
theorem pairs_pD : ∀ ps : List (Str × Str), pairsOf (ps.map pD) = some (ps.map fun p => (PyData.str p.1, PyData.str p.2))
  | [] => rfl
  | p :: ps => by
    rw [List.map_cons]
    unfold pairsOf
    rw [pairs_pD ps]
    rfl
theorem merge_pD {ps : List (Str × Str)} (h : (ps.map Prod.fst).Nodup) : mergeD [] (ps.map fun p => (PyData.str p.1, PyData.str p.2)) = ps.map fun p => (PyData.str p.1, PyData.str p.2) :=
  merge_new (fun p : Str × Str => p.1) (fun p => PyData.str p.2) ps [] h
theorem while_inv {c : DT} {b : DS} {D : DEnds} {e : DEnv} (W : Nat → DEnv → Prop) (m0 : Nat) (h0 : W m0 e) (st : ∀ m e, W m e → c e fun k e1 => if k = true then ∃ N : DEnv → Prop, (∀ e', N e' → ∃ m', m' < m ∧ W m' e') ∧ b { D with nx := N, ct := N, bk := D.nx } e1 else D.nx e1) : wWhile c b D e :=
  ⟨W, ⟨m0, h0⟩, st⟩
/-! ### parts over parts -/
def lk (ps : List (Str × Str)) (z : Str) : Option Str := (ps.find? fun p => p.1 == z).map Prod.snd
def overF (ps : List (Str × Str)) : Nat → Str → List Str
  | 0, _ => []
  | n + 1, z => match lk ps z with
    | some w => z :: overF ps n w
    | none => []
def over (ps : List (Str × Str)) (z : Str) : List Str := overF ps ps.length z
theorem lk_none {ps : List (Str × Str)} {z : Str} : lk ps z = none ↔ z ∉ ps.map Prod.fst := by
  unfold lk
  rw [Option.map_eq_none_iff, List.find?_eq_none]
  constructor
  · intro h hm
    obtain ⟨p, hp, rfl⟩ := List.mem_map.mp hm
    exact absurd (h p hp) (by simp)
  · intro h p hp e
    exact h (List.mem_map.mpr ⟨p, hp, by simpa using e⟩)
theorem lk_mem {ps : List (Str × Str)} (h : (ps.map Prod.fst).Nodup) {p : Str × Str} (hp : p ∈ ps) : lk ps p.1 = some p.2 := by
  unfold lk
  induction ps with
  | nil => cases hp
  | cons q ps ih =>
    rw [List.map_cons, List.nodup_cons] at h
    rcases List.mem_cons.mp hp with rfl | hp
    · rw [List.find?_cons_of_pos (by simp)]; rfl
    · rw [List.find?_cons_of_neg (by
        intro e
        have e : q.1 = p.1 := by simpa using e
        exact h.1 (by rw [e]; exact List.mem_map.mpr ⟨p, hp, rfl⟩))]
      exact ih h.2 hp
theorem lk_perm {ps qs : List (Str × Str)} (h : qs.Perm ps) (hn : (ps.map Prod.fst).Nodup) (z : Str) : lk qs z = lk ps z := by
  have hm : (qs.map Prod.fst).Perm (ps.map Prod.fst) := h.map _
  have hn2 : (qs.map Prod.fst).Nodup := hm.nodup_iff.mpr hn
  by_cases hz : z ∈ ps.map Prod.fst
  · obtain ⟨p, hp, rfl⟩ := List.mem_map.mp hz
    rw [lk_mem hn hp, lk_mem hn2 (h.mem_iff.mpr hp)]
  · rw [lk_none.mpr hz, lk_none.mpr (fun q => hz (hm.mem_iff.mp q))]
structure Rooted (ps : List (Str × Str)) : Prop where
  nd : (ps.map Prod.fst).Nodup
  up : ∀ (i : Nat) (p : Str × Str), ps[i]? = some p → p.2 ∉ ps.map Prod.fst ∨ ∃ (j : Nat) (q : Str × Str), j < i ∧ ps[j]? = some q ∧ p.2 = q.1
theorem overF_none {ps : List (Str × Str)} {z : Str} (h : z ∉ ps.map Prod.fst) : ∀ n, overF ps n z = []
  | 0 => rfl
  | n + 1 => by rw [overF, lk_none.mpr h]
theorem overF_eq {ps : List (Str × Str)} (h : Rooted ps) : ∀ (i : Nat) (p : Str × Str), ps[i]? = some p → ∀ n m, i < n → i < m → overF ps n p.1 = overF ps m p.1 := by
  intro i
  induction i using Nat.strongRecOn with
  | _ i ih =>
    intro p hp n m hn hm
    match n, m, hn, hm with
    | n + 1, m + 1, hn, hm =>
      rw [overF, overF, lk_mem h.nd (List.mem_of_getElem? hp)]
      show p.1 :: overF ps n p.2 = p.1 :: overF ps m p.2
      congr 1
      rcases h.up i p hp with q | ⟨j, q, h1, h2, h3⟩
      · rw [overF_none q, overF_none q]
      · rw [h3]; exact ih j h1 q h2 n m (by omega) (by omega)
theorem over_none {ps : List (Str × Str)} {z : Str} (h : z ∉ ps.map Prod.fst) : over ps z = [] := overF_none h _
theorem over_mem {ps : List (Str × Str)} (h : Rooted ps) {p : Str × Str} (hp : p ∈ ps) : over ps p.1 = p.1 :: over ps p.2 := by
  obtain ⟨i, hi, e⟩ := List.mem_iff_getElem.mp hp
  have hp' : ps[i]? = some p := by rw [← e]; exact List.getElem?_eq_getElem hi
  unfold over
  obtain ⟨n, hn⟩ : ∃ n, ps.length = n + 1 := ⟨ps.length - 1, by omega⟩
  rw [hn]
  show overF ps (n + 1) p.1 = p.1 :: overF ps (n + 1) p.2
  rw [overF, lk_mem h.nd hp]
  show p.1 :: overF ps n p.2 = _
  congr 1
  rcases h.up i p hp' with q | ⟨j, q, h1, h2, h3⟩
  · rw [overF_none q, overF_none q]
  · rw [h3]; exact overF_eq h j q h2 _ _ (by omega) (by omega)
theorem overF_len {ps : List (Str × Str)} : ∀ (n : Nat) (z : Str), (overF ps n z).length ≤ n
  | 0, _ => Nat.le_refl _
  | n + 1, z => by
    rw [overF]
    split
    · rw [List.length_cons]; have := overF_len (ps := ps) n; rename_i w _; have := this w; omega
    · exact Nat.zero_le _
theorem over_len (ps : List (Str × Str)) (z : Str) : (over ps z).length ≤ ps.length := overF_len _ _
theorem overF_sub {ps : List (Str × Str)} : ∀ (n : Nat) (z y : Str), y ∈ overF ps n z → y ∈ ps.map Prod.fst
  | 0, _, _, h => by cases h
  | n + 1, z, y, h => by
    rw [overF] at h
    split at h
    · rename_i w hw
      rcases List.mem_cons.mp h with rfl | h
      · apply Classical.byContradiction
        intro hn
        rw [lk_none.mpr hn] at hw; cases hw
      · exact overF_sub n w y h
    · cases h
theorem over_sub {ps : List (Str × Str)} {z y : Str} (h : y ∈ over ps z) : y ∈ ps.map Prod.fst := overF_sub _ _ _ h
theorem PsOk.rooted {zs : List Str} {ps : List (Str × Str)} (h : PsOk zs ps) (hz : ∀ z ∈ zs, NmOk z) (hn : zs.Nodup) : Rooted ps := by
  have nd : (ps.map Prod.fst).Nodup := by
    rw [List.Nodup, List.pairwise_iff_getElem]
    intro i j hi hj hij e
    rw [List.length_map] at hi hj
    rw [List.getElem_map, List.getElem_map] at e
    have h1 := h.fst i _ (List.getElem?_eq_getElem hi)
    have h2 := h.fst j _ (List.getElem?_eq_getElem hj)
    rw [e] at h1
    have := nodup_inj hn h1 h2
    omega
  refine ⟨nd, fun i p hp => ?_⟩
  rcases h.snd i p hp with q | q
  · left
    rw [q]
    intro hm
    obtain ⟨r, hr, e⟩ := List.mem_map.mp hm
    exact ((h.tok hz r hr).1).ne e
  · exact .inr q
/-! ### houses shown -/
theorem HoOk.lay {zs : List Str} {ps : List (Str × Str)} {h : Ho} (H : HoOk zs ps h) (hz : ∀ z ∈ zs, NmOk z) (hps : PsOk zs ps) : Lay 6 12000 h.d := by
  have own : ∀ z ∈ ps.map Prod.fst, TOk 8 z := fun z q => by
    obtain ⟨p, hp, rfl⟩ := List.mem_map.mp q
    exact (hps.tok2 hz p hp).1
  have i1 : ∀ i : Int, 0 ≤ i → i ≤ 1000000000 → Lay 0 40 (.int i) := fun i a b => Lay.int (by omega) (by omega)
  have l1 : Lay 2 160 (.tuple (h.parts.map pD)) := by
    rw [H.parts]
    refine (LayAll.alln 8 (k := 1) (w := 18) (fun d hd => ?_) ?_).tuple.mono (by omega) (by omega)
    · obtain ⟨p, hp, rfl⟩ := List.mem_map.mp (sortD_mem.mp hd)
      exact lay_pD (hps.tok2 hz p hp)
    · rw [sortD_len, List.length_map]; exact hps.len
  have l2 : Lay 2 4000 (.tuple (h.ranks.map Rk.d)) := by
    refine (LayAll.alln 20 (k := 1) (w := 182) (fun d hd => ?_) ?_).tuple.mono (by omega) (by omega)
    · obtain ⟨r, hr, rfl⟩ := List.mem_map.mp hd
      have R := H.rk r hr
      refine ((LayAll.cons (i1 _ R.n0 (by have := R.n1; omega)) (.cons (Lay.str (hz _ R.who).tok) (.cons (i1 _ (by have := R.r0; omega) (by have := R.r1; omega)) (.cons (Lay.str (own _ R.part)) (.cons (i1 _ R.f0 (by have := R.fl; have := R.l1; omega)) (.cons (i1 _ (by have := R.fl; have := R.f0; omega) (by have := R.l1; omega)) LayAll.nil)))))).tuple).mono (by omega) (by omega)
    · rw [List.length_map]; exact H.rl
  have l3 : Lay 2 4000 (.tuple (h.leaves.map Lv.d)) := by
    refine (LayAll.alln 16 (k := 1) (w := 191) (fun d hd => ?_) ?_).tuple.mono (by omega) (by omega)
    · obtain ⟨r, hr, rfl⟩ := List.mem_map.mp hd
      have R := H.lk r hr
      refine ((LayAll.cons (i1 _ R.n0 (by have := R.n1; omega)) (.cons (Lay.str (hz _ R.giver).tok) (.cons (Lay.str (hz _ R.taker).tok) (.cons (Lay.str (own _ R.part)) (.cons (i1 _ R.f0 (by have := R.fl; have := R.l1; omega)) (.cons (i1 _ (by have := R.fl; have := R.f0; omega) (by have := R.l1; omega)) (.cons (i1 _ R.m0 R.m1) LayAll.nil))))))).tuple).mono (by omega) (by omega)
    · rw [List.length_map]; exact H.ll
  have l4 : Lay 5 3600 (.tuple (h.rules.map Ru.d)) := by
    refine (LayAll.alln 10 (k := 4) (w := 358) (fun d hd => ?_) ?_).tuple.mono (by omega) (by omega)
    · obtain ⟨r, hr, rfl⟩ := List.mem_map.mp hd
      have R := H.ur r hr
      have ls : Lay 3 306 r.v := by
        refine (LayAll.alln 6 (k := 1) (w := 50) (fun d hd => ?_) ?_).tuple.mono (by omega) (by omega)
        · obtain ⟨s, hs, rfl⟩ := List.mem_map.mp hd
          obtain ⟨s1, s2, s3⟩ := R.seats s hs
          have : TOk 8 s.2 := by
            rcases s3 with q | q
            · rw [q]; exact tok_empty.mono (by omega)
            · exact own _ q
          refine ((LayAll.cons (i1 _ (by omega) (by omega)) (.cons (Lay.str this) LayAll.nil)).tuple).mono (by omega) (by omega)
        · rw [List.length_map]; exact R.len
      refine ((LayAll.cons ((Lay.str (own _ R.part)).mono (Nat.zero_le 3) (Nat.le_refl _)) (.cons ((i1 _ R.s0 R.s1).mono (Nat.zero_le 3) (Nat.le_refl _)) (.cons ls (LayAll.nil.mono (w' := 0) (Nat.zero_le 3) (Nat.le_refl _))))).tuple).mono (by omega) (by omega)
    · rw [List.length_map]; exact H.ul
  exact ((LayAll.cons (l1.mono (by omega : 2 ≤ 5) (Nat.le_refl _)) (.cons (l2.mono (by omega : 2 ≤ 5) (Nat.le_refl _)) (.cons (l3.mono (by omega : 2 ≤ 5) (Nat.le_refl _)) (.cons l4 (LayAll.nil.mono (w' := 0) (Nat.zero_le 5) (Nat.le_refl _)))))).tuple).mono (by omega) (by omega)
/-- a house as it is asked about -/
structure Case (zs : List Str) (ps : List (Str × Str)) (h : Ho) : Prop where
  z : ∀ z ∈ zs, NmOk z
  nd : zs.Nodup
  zl : zs.length = 9
  pk : PsOk zs ps
  ho : HoOk zs ps h
theorem Case.parts {zs : List Str} {ps : List (Str × Str)} {h : Ho} (c : Case zs ps h) : h.parts.Perm ps := by
  have e := c.ho.parts
  have p := (sortD_perm (ps.map pD))
  rw [← e] at p
  have inj : ∀ a b : Str × Str, pD a = pD b → a = b := fun a b h => by
    unfold pD at h
    simp only [PyData.tuple.injEq, List.cons.injEq, PyData.str.injEq, and_true] at h
    exact Prod.ext h.1 h.2
  exact perm_of_map inj p
theorem HoOk.bare {zs : List Str} {ps ps' : List (Str × Str)} (h : ps'.map pD = sortD (ps.map pD)) : HoOk zs ps ⟨ps', [], [], []⟩ :=
  ⟨h, Nat.zero_le _, .nil, fun r h => (by cases h), Nat.zero_le _, .nil, fun r h => (by cases h), Nat.zero_le _, ⟨[], .nil, by simp [sortD]⟩, fun r h => (by cases h)⟩
theorem Case.overLay {zs : List Str} {ps : List (Str × Str)} {h : Ho} (c : Case zs ps h) (z : Str) : Lay 1 100 (.list ((over ps z).map .str)) := by
  refine (LayAll.alln 8 (k := 0) (w := 8) (fun d hd => ?_) ?_).list.mono (by omega) (by omega)
  · obtain ⟨y, hy, rfl⟩ := List.mem_map.mp hd
    obtain ⟨p, hp, rfl⟩ := List.mem_map.mp (over_sub hy)
    exact Lay.str (c.pk.tok2 c.z p hp).1
  · rw [List.length_map]
    exact Nat.le_trans (over_len ps z) c.pk.len
/-! the laws' own dict of parts over parts -/
theorem due_find {ps : List (Str × Str)} {z : Str} {m : Nat} : (lookD ((ps.take m).map fun p => (PyData.str p.1, PyData.list ((over ps p.1).map .str))) (.str z)).getD (.list []) = if z ∈ (ps.take m).map Prod.fst then PyData.list ((over ps z).map .str) else .list [] := by
  rw [lookD_map (fun p : Str × Str => p.1) (fun p => PyData.list ((over ps p.1).map .str))]
  split
  · rename_i h
    obtain ⟨q, hq, rfl⟩ := List.mem_map.mp h
    cases hf : (ps.take m).find? fun x => x.1 == q.1 with
    | none => exact absurd (List.find?_eq_none.mp hf q hq) (by simp)
    | some r =>
      have := List.find?_some hf
      have e : r.1 = q.1 := by simpa using this
      show PyData.list ((over ps r.1).map .str) = _
      rw [e]
  · rename_i h
    have : (ps.take m).find? (fun x => x.1 == z) = none := by
      rw [List.find?_eq_none]
      intro x hx e
      exact h (List.mem_map.mpr ⟨x, hx, by simpa using e⟩)
    rw [this]; rfl
theorem due_look {ps : List (Str × Str)} (hr : Rooted ps) {i : Nat} {p : Str × Str} (h : ps[i]? = some p) : (lookD ((ps.take i).map fun p => (PyData.str p.1, PyData.list ((over ps p.1).map .str))) (.str p.2)).getD (.list []) = .list ((over ps p.2).map .str) := by
  rw [due_find]
  rcases hr.up i p h with q | ⟨j, q, h1, h2, h3⟩
  · rw [over_none q]; simp
  · rw [if_pos]
    rw [h3]
    refine List.mem_map.mpr ⟨q, ?_, rfl⟩
    refine List.mem_of_getElem? (i := j) ?_
    rw [List.getElem?_take_of_lt h1]; exact h2
theorem due_all {ps : List (Str × Str)} (hr : Rooted ps) (z : Str) : (lookD (ps.map fun p => (PyData.str p.1, PyData.list ((over ps p.1).map .str))) (.str z)).getD (.list []) = .list ((over ps z).map .str) := by
  have := due_find (ps := ps) (z := z) (m := ps.length)
  rw [List.take_length] at this
  rw [this]
  split
  · rfl
  · rename_i h; rw [over_none h]; rfl
theorem due_put {ps : List (Str × Str)} (hr : Rooted ps) {i : Nat} {p : Str × Str} (h : ps[i]? = some p) : putD ((ps.take i).map fun p => (PyData.str p.1, PyData.list ((over ps p.1).map .str))) (.str p.1) (.list ((over ps p.1).map .str)) = (ps.take (i + 1)).map fun p => (PyData.str p.1, PyData.list ((over ps p.1).map .str)) := by
  rw [putD_new (fun p : Str × Str => p.1) (fun p => PyData.list ((over ps p.1).map .str)), List.take_succ, h]
  · simp
  · intro x hx e
    obtain ⟨j, hj, e2⟩ := List.mem_iff_getElem.mp hx
    rw [List.length_take] at hj
    rw [List.getElem_take] at e2
    have h1 : (ps.map Prod.fst)[j]? = some p.1 := by
      rw [List.getElem?_map, List.getElem?_eq_getElem (by omega), e2, ← e]; rfl
    have h2 : (ps.map Prod.fst)[i]? = some p.1 := by rw [List.getElem?_map, h]; rfl
    have := nodup_inj hr.nd h1 h2
    omega
end PL
set_option Elab.async false
set_option linter.all false
set_option autoImplicit false
set_option maxRecDepth 100000
set_option maxHeartbeats 4000000
/-! PLz: sorted(set(list)) of whole numbers or of texts. -/
namespace PL
open PySem PySem.Spec PyProof.Rows L2
def kOf : Value → Key
  | .int i _ => .inl i
  | .str x _ => .inr x
  | _ => .inl 0
theorem kOf_is {k : Key} {v : Value} (h : keyIs k v = true) : kOf v = k := by rcases keyIs_shape h with ⟨i, t, rfl, rfl⟩ | ⟨x, t, rfl, rfl⟩ <;> rfl
theorem scan_of {k : Key} {v : Value} (h : keyIs k v = true) : v.scannable = true := by rcases keyIs_shape h with ⟨i, t, rfl, rfl⟩ | ⟨x, t, rfl, rfl⟩ <;> rfl
/-- a table of keys that can be walked; ks are its members, told at least once -/
structure Wk (w : World) (es : Array (Int × Value)) (t : SetTable) (n : Nat) (ks : List Key) : Prop where
  good : ∀ e ∈ es.toList, ∃ k, keyIs k e.2 = true ∧ e.1 = keyH w k
  nd : (es.toList.map fun e => kOf e.2).Nodup
  mem : ∀ k, k ∈ ks ↔ k ∈ es.toList.map fun e => kOf e.2
  few : es.size ≤ n
  fit : t.fits es.size = true
  ris : Ris t.place.toList
  led : w.params.followText "set-order" = true ∨ t.led = true
def SetW (w : World) (h : Heap) (a : Addr) (n : Nat) (ks : List Key) : Prop := ∃ o es ep t, h.get? a = some o ∧ o.ExactSet ∧ o.data = .set es ep t ∧ Wk w es t n ks
theorem SetW.at {w : World} {h h' : Heap} {a : Addr} {n : Nat} {ks : List Key} (R : SetW w h a n ks) (k : ∀ o, h.get? a = some o → h'.get? a = some o) : SetW w h' a n ks := by
  obtain ⟨o, es, ep, t, ho, r⟩ := R
  exact ⟨o, es, ep, t, k o ho, r⟩
section
variable {P : Program} {w : World} {A : Around} {E : Value → Shared → Prop} {s : Shared} {a : Addr} {n : Nat} {ks : List Key}
theorem Wk.elems {es : Array (Int × Value)} {t : SetTable} (W : Wk w es t n ks) : ElemsOf (mixKind P w) es.toList := fun e he => by
  obtain ⟨j, h1, h2⟩ := W.good e he
  exact ⟨⟨j, h1, h2⟩, scan_of h1⟩
theorem Wk.tab {es es' : Array (Int × Value)} {t t' : SetTable} (W : Wk w es t n ks) (p : es'.toList.Perm es.toList) (f : t'.fits es'.size = true) (r : Ris t'.place.toList) (l : t'.led = t.led) : Wk w es' t' n ks := by
  have z : es'.size = es.size := by have := p.length_eq; simpa using this
  refine ⟨fun e he => W.good e (p.mem_iff.mp he), (p.map _).nodup_iff.mpr W.nd, fun k => (W.mem k).trans (p.map _).mem_iff.symm, by rw [z]; exact W.few, f, r, ?_⟩
  rcases W.led with q | q
  · exact .inl q
  · exact .inr (l.trans q)
/-- the table is stored, and laid anew where it is too full -/
theorem store_tail {g : Bool → Sem Unit} (hg : ∀ (b : Bool) (s₁ : Shared) (Q' : Unit → Shared → Prop), Q' () s₁ → wpAny (model P w) A (g b) Q' E s₁) {o : Obj} {es es1 : Array (Int × Value)} {ep : Nat} {t t2 : SetTable}
    (ho : s.heap.get? a = some o) (hx : o.ExactSet) (hd : o.data = .set es ep t) (W : Wk w es1 t2 n ks) (hn : n < scanBound) {d : Bool} {R : Option Bool → Shared → Prop}
    (hR : ∀ h', Heap.SameBut a s.heap h' → SetW w h' a n ks → R (some true) { s with heap := h' }) :
    wpAny (model P w) A (do storeSet a es1 t2; if (!d && t2.tooFull) = true then do { g (relayAll t2 es1 (SetTable.grown es1.size)).2.2; storeSet a (relayAll t2 es1 (SetTable.grown es1.size)).1 (relayAll t2 es1 (SetTable.grown es1.size)).2.1; pure (some true) } else pure (some true)) R E s := by
  have b1 : es1.size < scanBound := Nat.lt_of_le_of_lt W.few hn
  have q1 := L2.store_at (es' := es1) (t' := t2) ho hd
  have sb := Heap.SameBut.update s.heap a (Obj.putSet es1 t2)
  refine wpAny_bind (wpAny_storeSet_of ho hd ?_ (fits_of_scanBound b1))
  split
  · have W2 := W.tab (relayAll_perm t2 es1 (SetTable.grown es1.size)) (relayAll_fits t2 es1 (SetTable.grown es1.size)) (relayAll_ris t2 es1 (SetTable.grown es1.size)) (relayAll_led t2 es1 (SetTable.grown es1.size))
    generalize relayAll t2 es1 (SetTable.grown es1.size) = Z at W2 ⊢
    obtain ⟨es2, t3, gave⟩ := Z; dsimp only at W2 ⊢
    have b2 : es2.size < scanBound := Nat.lt_of_le_of_lt W2.few hn
    refine wpAny_bind (hg _ _ _ (wpAny_bind (wpAny_storeSet_of q1 rfl (wpAny_pure (hR _ (sb.trans (Heap.SameBut.update _ a _)) ⟨_, es2, _, t3, L2.store_at (es' := es2) (t' := t3) q1 rfl, hx, rfl, W2⟩)) (fits_of_scanBound b2))))
  · exact wpAny_pure (hR _ sb ⟨_, es1, _, t2, q1, hx, rfl, W⟩)
theorem setW_add {k : Key} {v : Value} {Q : Bool → Shared → Prop} (hk : keyIs k v = true) (R : SetW w s.heap a n ks) (room : n + 1 < scanBound) (hQ : ∀ b h', Heap.SameBut a s.heap h' → SetW w h' a (n + 1) (ks ++ [k]) → Q b { s with heap := h' }) :
    wpAny (model P w) A (setAddHashed a v (keyH w k)) Q E s := by
  obtain ⟨o, es, ep, t, ho, hx, hd, W⟩ := R
  have el : ElemsOf (mixKind P w) es.toList := W.elems
  have sc := scan_of hk
  have b0 : es.size < scanBound := by have := W.few; omega
  unfold setAddHashed setAddHashedIn; refine wpAny_holding (wpAny_bind (wpAny_setState_of ho hd W.fit ?_)); dsimp only; rw [byScan_of (knd := mixKind P w) sc b0 el]; simp only [↓reduceIte]; unfold setAddByScan
  refine wpAny_bind (wpAny_bind (wpAny_rule (wpAny_bind (wpAny_setScan_of (knd := mixKind P w) hk ho hd W.fit el ?_))))
  cases hfi : List.findIdx? (fun e => (mixKind P w).is k e.2) es.toList with
  | some j =>
    dsimp only
    obtain ⟨hj, pj, _⟩ := List.findIdx?_eq_some_iff_getElem.mp hfi
    have km : k ∈ es.toList.map fun e => kOf e.2 := List.mem_map.mpr ⟨_, List.getElem_mem hj, kOf_is pj⟩
    refine wpAny_pure (wpAny_pure (hQ _ s.heap (Heap.SameBut.refl a s.heap) ⟨o, es, ep, t, ho, hx, hd, W.good, W.nd, fun i => ?_, Nat.le_succ_of_le W.few, W.fit, W.ris, W.led⟩))
    rw [List.mem_append, List.mem_singleton, ← W.mem i]
    exact ⟨fun z => z.elim id fun e => by rw [e]; exact (W.mem k).mpr km, .inl⟩
  | none =>
    dsimp only
    have kn : k ∉ es.toList.map fun e => kOf e.2 := fun z => by
      obtain ⟨e, he, q⟩ := List.mem_map.mp z
      obtain ⟨j, h1, _⟩ := W.good e he
      have e1 : j = k := (kOf_is h1).symm.trans q
      have c := List.findIdx?_eq_none_iff.mp hfi e he
      rw [e1] at h1
      exact Bool.false_ne_true (c.symm.trans h1)
    have gw : ∀ (b : Bool) {s₁ : Shared} {Q' : Unit → Shared → Prop}, Q' () s₁ → wpAny (model P w) A (match b with | true => rule "set.scan.the-table-gave-way" | false => pure ()) Q' E s₁ := fun b _ _ q => by cases b <;> first | exact wpAny_pure q | exact wpAny_rule q
    have pm := layNew_perm t es (keyH w k) v
    have f1 := layNew_fits t es (keyH w k) v
    have r1 := layNew_ris t es (keyH w k) v W.ris
    have l1 := layNew_led t es (keyH w k) v
    generalize layNew t es (keyH w k) v = Z at pm f1 r1 l1 ⊢
    obtain ⟨es1, t1, d, gave⟩ := Z; dsimp only at pm f1 r1 l1 ⊢
    rw [Array.toList_push] at pm
    have pc : es1.toList.Perm ((keyH w k, v) :: es.toList) := pm.trans (List.perm_append_singleton _ _)
    have pk := pc.map fun e => kOf e.2
    rw [List.map_cons, kOf_is hk] at pk
    have z1 : es1.size = es.size + 1 := by have := pc.length_eq; simpa using this
    have W1 : ∀ t2 : SetTable, t2.fits es1.size = true → Ris t2.place.toList → t2.led = t1.led → Wk w es1 t2 (n + 1) (ks ++ [k]) := fun t2 f r l => by
      refine ⟨fun e he => ?_, pk.nodup_iff.mpr (List.nodup_cons.mpr ⟨kn, W.nd⟩), fun i => ?_, by have := W.few; omega, f, r, ?_⟩
      · rcases List.mem_cons.mp (pc.mem_iff.mp he) with z | z
        · rw [z]; exact ⟨k, hk, rfl⟩
        · exact W.good e z
      · rw [List.mem_append, List.mem_singleton, W.mem i, pk.mem_iff, List.mem_cons]; exact Or.comm
      · rcases W.led with q | q
        · exact .inl q
        · exact .inr (by rw [l, l1]; exact q)
    refine wpAny_bind (gw _ ?_)
    split
    · refine wpAny_bind ?_; rw [hashByValue_scannable 8 sc]; refine wpAny_pure ?_
      refine store_tail (n := n + 1) (ks := ks ++ [k]) (fun b s₁ Q' q => by cases b <;> first | exact wpAny_pure q | exact wpAny_rule q) ho hx hd (W1 _ ?_ ?_ ?_) room fun h' sb r => by dsimp only; exact wpAny_pure (hQ _ h' sb r)
      · first | (split <;> first | exact f1 | exact SetTable.fits_plain_off f1) | exact f1
      · first | (split <;> exact r1) | exact r1
      · first | (split <;> rfl) | rfl
    · refine wpAny_bind (wpAny_pure ?_); simp only [↓reduceIte]
      exact store_tail (n := n + 1) (ks := ks ++ [k]) (fun b s₁ Q' q => by cases b <;> first | exact wpAny_pure q | exact wpAny_rule q) ho hx hd (W1 _ f1 r1 rfl) room fun h' sb r => by dsimp only; exact wpAny_pure (hQ _ h' sb r)
/-! ### set(xs) -/
theorem setW_loop {I : Addr} {fp wr : List Addr} {G : Array GenState → Array GenState → Prop} {m : Nat} {Pv : Nat → Value → Prop} {St : Nat → Shared → Prop} {R : Result → Shared → Prop} (W : WalksS P w A.in1 I fp wr G m Pv St) (S : Addr) (hSf : S ∉ fp)
    (hm : m = ks.length) (hb : ks.length + 1 < scanBound) (hv : ∀ (i : Nat) (v : Value), Pv i v → ∃ k, ks[i]? = some k ∧ keyIs k v = true) :
    ∀ (j i : Nat) (s : Shared), m - i = j → i ≤ m → St i s → SetW w s.heap S i (ks.take i) → (∀ s', Moved (S :: wr) G s s' → SetW w s'.heap S m ks → R (.ok (.ret .none)) s') → codeAny (model P w) A (.builtin "set.update.loop" ⟨[.ref S, .ref I], []⟩) R s := by
  have hSw : S ∉ wr := fun h => hSf (W.sub _ h)
  have up : ∀ b ∈ wr, b ∈ S :: wr := fun b hb => List.mem_cons_of_mem _ hb
  intro j
  induction j with
  | zero =>
    intro i s hj hi st hS hR
    obtain rfl : i = m := by omega
    refine codeAny_builtin PyProof.Rows.F.entry_set_update_loop ?_; rw [Around.under_plainId PyProof.Rows.F.plain_set_update_loop _]; show wpAny _ A.in1 (pyNext (.ref I) >>= _) _ _ s
    refine wpAny_bind (W.done s _ _ st fun s' mv => ?_); show wpAny _ A.in1 (ret Value.none) _ _ s'
    rw [List.take_of_length_le (by omega)] at hS
    exact wpAny_pure (hR s' (mv.mono up) (hS.at fun o e => mv.heap S o hSw e))
  | succ j ih =>
    intro i s hj hi st hS hR
    have lt : i < m := by omega
    refine codeAny_builtin PyProof.Rows.F.entry_set_update_loop ?_; rw [Around.under_plainId PyProof.Rows.F.plain_set_update_loop _]; show wpAny _ A.in1 (pyNext (.ref I) >>= _) _ _ s
    refine wpAny_bind (W.item i s _ _ lt st fun v s' hP st' mv => ?_)
    obtain ⟨k, hk, kv⟩ := hv i v hP
    have hS' := hS.at (h' := s'.heap) fun o e => mv.heap S o hSw e
    show wpAny _ A.in1 (holding [v] (setAdd S v) >>= _) _ _ s'
    refine wpAny_bind (wpAny_holding ?_); unfold setAdd; refine wpAny_holding (wpAny_bind ((mixKind P w).pyHash (k := k) kv ?_))
    refine setW_add (s := { s' with toks := s'.toks + 1 }) kv hS' (by omega) fun b h' sb hS2 => ?_
    have hS3 : SetW w h' S (i + 1) (ks.take (i + 1)) := by rw [List.take_succ, hk]; exact hS2
    refine wpAny_pure ⟨plainId_quiet PyProof.Rows.F.plain_set_update_loop _, ih (i + 1) _ (by omega) lt (W.frame _ s' _ _ st' (Nat.le_succ _) fun b hb o e => ?_) hS3 fun s'' mv2 hS'' => hR s'' (Moved.trans W.gtrans ((mv.mono up).then_heap (Nat.le_succ _) fun b o hb e => ?_) mv2) hS''⟩
    · rw [sb.2 b fun h : b = S => hSf (by rw [← h]; exact hb)]; exact e
    · rw [sb.2 b fun h : b = S => hb (by rw [h]; exact List.mem_cons_self)]; exact e
@[reducible] def newS (w : World) : Obj := { cls := .type "set", dict := none, data := .set #[] 0 (.fresh 0 0 (!w.params.followText "set-order")) }
theorem setW_new {h : Heap} (ho : h.get? a = some (newS w)) : SetW w h a 0 [] :=
  ⟨_, #[], 0, _, ho, ⟨rfl, rfl, rfl⟩, rfl, ⟨fun e he => (by simp at he), by simp, fun k => by simp, Nat.le_refl _, by rfl, List.Pairwise.nil, by cases h : w.params.followText "set-order" <;> simp [SetTable.fresh]⟩⟩
set_option maxHeartbeats 8000000 in
theorem call_setW {l : Addr} {items : Array Value} {Q : Value → Shared → Prop} (hh : A.handled = none) (hl : s.heap.IsList l items) (hz : items.size = ks.length) (hit : ∀ (i : Nat) (v : Value), items[i]? = some v → ∃ k, ks[i]? = some k ∧ keyIs k v = true) (hb : ks.length + 1 < scanBound)
    (h : ∀ (h' : Heap) (tk : Nat), SetW w h' s.heap.objs.size ks.length ks → (∀ b o, s.heap.get? b = some o → h'.get? b = some o) → Q (.ref s.heap.objs.size) { s with heap := h', toks := tk }) : wpAny (model P w) A (call (.type "set") [.ref l]) Q E s := by
  obtain ⟨c, tl, hmro⟩ := PySem.F.called_set.mro; have made := PySem.F.called_set.made; have sub := PySem.F.called_set.sub
  refine wpAny_call (codeAny_of_tree ?_); show wpAny _ _ (callAny (.type "set") _) _ _ _
  refine wpAny_pure ⟨Code.quiet_builtin _ (by decide +kernel), codeAny_builtin PySem.F.entry_type_call ?_⟩
  rw [Around.under_plain (weight_type_call_type "set" [.ref l] []) rfl]
  have u1 := PySem.F.called_set.notType; have u2 := PySem.F.called_set.canCreate; have u3 := PySem.F.typeCall_set_1 (.ref l)
  repeat (any_goals (first | assumption | wp_step))
  refine codeAny_mono (code_set_led1 (.ref l) (E := E) (Q₁ := fun obj s₁ => obj = .ref s.heap.objs.size ∧ s₁ = { s with heap := s.heap.push (newS w) }) ⟨rfl, rfl⟩) fun r s₁ hr => ?_
  cases r with
  | error e => exact hr
  | ok fl => cases fl with
    | ret obj =>
      obtain ⟨rfl, rfl⟩ := hr
      have hS : (s.heap.push (newS w)).get? s.heap.objs.size = some (newS w) := Heap.get?_push_size _ rfl
      have hT : Shared.TypeIs { s with heap := s.heap.push (newS w) } (.ref s.heap.objs.size) "set" := ⟨_, hS, rfl⟩
      have v1 := PySem.F.called_set.init.lookup; have v2 := PySem.F.called_set.init.bind (.ref s.heap.objs.size)
      repeat (any_goals (first | assumption | wp_step))
      refine codeAny_mono (codeAny_call_builtin (R := wants (fun r s₂ => r = .none ∧ ∃ h' tk, s₂ = { s with heap := h', toks := tk } ∧ SetW w h' s.heap.objs.size ks.length ks ∧ ∀ b o, s.heap.get? b = some o → h'.get? b = some o) E) PySem.F.called_set.init.plain PySem.F.entry_set_init (check_set_init_1 hT ?_)) fun r₂ s₂ hr₂ => ?_
      · obtain ⟨⟨ocls, odict, odata, oslots⟩, hol, hcl, nl, hdl⟩ := hl; simp only at hcl hdl; subst hcl hdl
        have k1 : (s.heap.push (newS w)).get? l = some { cls := .type "list", dict := odict, data := .seq items nl, slots := oslots } := Heap.get?_push_of_some _ hol
        have t1 := PySem.F.sub_list_set; have t2 := PySem.F.sub_list_frozenset; have t3 : (Value.type "list" == Value.type "dict") = false := by decide
        have hl1 : (s.heap.push (newS w)).IsList l items := ⟨_, k1, rfl, nl, rfl⟩
        unfold Builtin.«set.__init__» noKeywords Builtin.Frozenset.updateFrom; generalize hPI : pyIter = PI; wp_walk; subst hPI
        refine wpAny_pyIter_list hl1 ?_; refine wpAny_bind (wpAny_runValue ?_)
        have ls : l < s.heap.objs.size := Heap.lt_size hol
        have h3 : A.in1.in1.in1.handled = none := by simp [hh]
        have pz : (s.heap.push (newS w)).objs.size = s.heap.objs.size + 1 := Heap.size_push ..
        have neI : l ≠ (s.heap.push (newS w)).objs.size := by rw [pz]; exact Nat.ne_of_lt (Nat.lt_succ_of_lt ls)
        have nf : s.heap.objs.size ∉ [(s.heap.push (newS w)).objs.size, l] := by
          rw [pz]; simp only [List.mem_cons, List.not_mem_nil, or_false, not_or]; exact ⟨Nat.ne_of_lt (Nat.lt_succ_self _), Nat.ne_of_gt ls⟩
        refine setW_loop (ks := ks) ((Walks.list h3 _ l neI items).toS) s.heap.objs.size nf hz hb hit (items.size - 0) 0 _ (by omega) (Nat.zero_le _) ⟨⟨_, Heap.get?_push_size _ rfl, rfl, rfl⟩, (hl1.push _)⟩ ?sA ?sB
        case sA => exact setW_new (Heap.get?_push_of_some _ hS)
        case sB =>
          intro s' mv hS'
          obtain ⟨h', g2, d', tk', os'⟩ := s'
          obtain rfl : g2 = s.gens := mv.gens; obtain rfl : d' = s.drawn := mv.drawn; obtain rfl : os' = s.os := mv.os
          show wpAny _ _ _ _ _ _; refine wpAny_pure ?_; show wpAny _ _ (ret Value.none) _ _ _
          rw [hz] at hS'
          refine wpAny_pure ⟨rfl, h', tk', rfl, hS', fun b o e => ?_⟩
          have b0 : b < s.heap.objs.size := Heap.lt_size e
          refine mv.heap b o ?_ (Heap.get?_push_of_some _ (Heap.get?_push_of_some _ e))
          rw [pz]; simp only [List.mem_cons, List.not_mem_nil, or_false, not_or]; exact ⟨Nat.ne_of_lt b0, Nat.ne_of_lt (Nat.lt_succ_of_lt b0)⟩
      · cases r₂ with
        | error e => exact hr₂
        | ok fl₂ => cases fl₂ with
          | ret r =>
            obtain ⟨rfl, h', tk, rfl, hS', hk'⟩ := hr₂
            repeat (any_goals (first | assumption | wp_step))
            exact h _ _ hS' hk'
          | _ => exact hr₂.elim
    | _ => exact hr.elim
end
end PL
set_option Elab.async false
set_option linter.all false
set_option autoImplicit false
set_option maxRecDepth 100000
set_option maxHeartbeats 4000000
/-! PLzb: sorted(set(list)), the rules. -/
namespace PL
open PySem PySem.Spec PyProof.Rows L2
def SetM (w : World) (a : Addr) (n : Nat) (ks : List Key) : HO := .ext fun h => SetW w h a n ks
theorem vals_kV : ∀ {ks : List Key} {us : List Value}, Vals (ks.map kV) us → us.length = ks.length ∧ ∀ (i : Nat) (v : Value), us[i]? = some v → ∃ k, ks[i]? = some k ∧ keyIs k v = true
  | [], us, h => by cases h; exact ⟨rfl, fun i v q => by simp at q⟩
  | k :: ks, us, h => by
    cases h with
    | cons r t =>
      obtain ⟨h1, h2⟩ := vals_kV t
      refine ⟨by simp [h1], fun i v q => ?_⟩
      cases i with
      | zero =>
        refine ⟨k, rfl, ?_⟩
        simp only [List.getElem?_cons_zero, Option.some.injEq] at q
        subst q
        cases k with
        | inl i => obtain ⟨t, rfl⟩ := r; exact keyIs_int i t
        | inr x => obtain ⟨t, rfl⟩ := r; exact keyIs_str x t
      | succ i => exact h2 i v (by simpa using q)
theorem kV_vals : ∀ {us : List Value}, (∀ u ∈ us, ∃ k, keyIs k u = true) → Vals ((us.map kOf).map kV) us
  | [], _ => .nil
  | u :: us, h => by
    obtain ⟨k, hk⟩ := h u (by simp)
    refine .cons ?_ (kV_vals fun v hv => h v (List.mem_cons_of_mem _ hv))
    rw [kOf_is hk]
    rcases keyIs_shape hk with ⟨i, t, rfl, rfl⟩ | ⟨x, t, rfl, rfl⟩
    · exact ⟨t, rfl⟩
    · exact ⟨t, rfl⟩
section
variable {X : Cx}
def rSetM (K : PySem.W.Frag) (w : World) : List V → Hp → VK → Prop := fun xs H Q => ∃ (l : Addr) (ks : List Key), xs = [.ref l] ∧ SqL K H l (ks.map kV) ∧ ks.length ≤ 2000 ∧ ∀ p, H p = none → Q (.ref p) (upd H p (SetM w p ks.length ks))
theorem cr_setM (hc : X.calm = true) : CallR X (.type "set") (rSetM X.K X.w) := by
  intro pins s σ H xs us Q I r h
  obtain ⟨l, ks, rfl, hq, hl, q⟩ := h
  rw [Vals.ref1 r]
  obtain ⟨its, rv, pl, hz⟩ := I.list hq
  obtain ⟨z1, z2⟩ := vals_kV rv
  refine call_setW (ks := ks) (I.ok.hd hc) pl.isList (by rw [List.size_toArray]; exact z1) (fun i v hv => z2 i v (by simpa using hv)) (by unfold scanBound; omega) fun h' tk R k => ?_
  have he : ∃ o, h'.get? s.heap.objs.size = some o := by
    obtain ⟨o, _, _, _, ho, _⟩ := R
    exact ⟨o, ho⟩
  exact ⟨.ref _, upd H s.heap.objs.size (SetM X.w s.heap.objs.size ks.length ks), I.laid (t' := tk) (fun b u e => k b u e) (Nat.le_refl _) ⟨R, he, fun h1 h2 p k => SetW.at p k⟩, rfl, q _ (I.hok.fresh (Nat.le_refl _))⟩
def rSortM (w : World) : List V → Hp → VK → Prop := fun xs H Q => ∃ (a : Addr) (n : Nat) (ks : List Key), xs = [.ref a] ∧ H a = some (SetM w a n ks) ∧ n ≤ 2000 ∧ PySem.W.AllAlike (ks.map kD) ∧ PySem.W.Sortable (ks.map kD) ∧
  ∀ (ms : List Key) (p : Addr), ms.Nodup → (∀ k, k ∈ ms ↔ k ∈ ks) → H p = none → Q (.ref p) (upd H p (.lst (((ms.map fun k => (kV k, kD k)).mergeSort (PySem.W.dataLe false Prod.snd)).map Prod.fst)))
theorem reads_key {h : Heap} {k : Key} {u : Value} (r : RelV (kV k) u) : Reads h u (kD k) [] := by
  cases k with
  | inl i => obtain ⟨t, rfl⟩ := r; exact Reads.int i t
  | inr x => obtain ⟨t, rfl⟩ := r; exact Reads.str x t
theorem cr_sortM (hc : X.calm = true) (hu : X.A.units + 130 < cLine) : CallR X (.builtin "sorted") (rSortM X.w) := by
  intro pins s σ H xs us Q I r h
  obtain ⟨a, n, ks, rfl, ha, hn, hal, hso, q⟩ := h
  rw [Vals.ref1 r]
  obtain ⟨o, es, ep, t, ho, hx, hd, W⟩ : SetW X.w s.heap a n ks := (I.hok a _ ha).1
  have few := W.few
  refine Calls.call_function_entry PyProof.Rows.kind_sorted PyProof.Rows.plain_sorted PyProof.Rows.entry_sorted (PyProof.Rows.args_sorted1 _) ?_
  unfold Builtin.«sorted»; refine wpAny_bind (m := checkCount "sorted" 1 1 _) (wpAny_pure ?_)
  refine wpAny_bind (collect_set (A := X.A.in1) (I.ok.hd hc) ⟨o, ho, hx.1, hd⟩ W.fit (by unfold scanBound; omega) W.ris W.led fun s1 out k1 z1 g1 o1 pm => ?_)
  have I1 : Inv X pins σ H s1 := I.call' (ch := []) o1 (Un.kept k1) (I.hok.kept k1) (by rw [g1]; exact I.bare) (fun _ z => nomatch z)
  have hk : ∀ u ∈ out, ∃ k, keyIs k u = true := fun u hu => by
    obtain ⟨e, he, rfl⟩ := List.mem_map.mp (pm.mem_iff.mp hu)
    obtain ⟨k, h1, _⟩ := W.good e he
    exact ⟨k, h1⟩
  have pk : (out.map kOf).Perm (es.toList.map fun e => kOf e.2) := by
    have := pm.map kOf
    rw [List.map_map] at this
    exact this
  have ol : out.length = es.size := by rw [pm.length_eq, List.length_map, Array.length_toList]
  have nd := pk.nodup_iff.mpr W.nd
  have mm : ∀ k, k ∈ out.map kOf ↔ k ∈ ks := fun k => pk.mem_iff.trans (W.mem k).symm
  have rv := kV_vals hk
  generalize hms : out.map kOf = ms at nd mm rv
  have ml : ms.length = out.length := by rw [← hms, List.length_map]
  have rv2 : Vals ((ms.map fun k => (kV k, kD k)).map Prod.fst) out := by rw [List.map_map]; exact rv
  have snd : (ms.map fun k => (kV k, kD k)).map Prod.snd = ms.map kD := by rw [List.map_map]; rfl
  have hsub : ∀ d ∈ ms.map kD, d ∈ ks.map kD := fun d hd => by
    obtain ⟨k, hk, rfl⟩ := List.mem_map.mp hd
    exact List.mem_map.mpr ⟨k, (mm k).mp hk, rfl⟩
  have al : PySem.W.AllAlike ((ms.map fun k => (kV k, kD k)).map Prod.snd) := by rw [snd]; exact fun d hd e he => hal d (hsub d hd) e (hsub e he)
  have so : PySem.W.Sortable ((ms.map fun k => (kV k, kD k)).map Prod.snd) := by
    rw [snd]
    rcases hso with h | h
    · exact .inl fun d hd => h d (hsub d hd)
    · exact .inr fun d hd => h d (hsub d hd)
  refine wpAny_bind (wpAny_newList ?_ (by rw [sizeLine_eq]; omega))
  have hoL : (s1.heap.push (seqObj "list" out.toArray 0)).get? s1.heap.objs.size = some (seqObj "list" out.toArray 0) := Heap.get?_push_size _ rfl
  show wpAny _ _ _ _ _ { s1 with heap := s1.heap.push (seqObj "list" out.toArray 0) }
  have e1 : PySem.W.EachIs (fun u (p : V × D) => RelV p.1 u) out (ms.map fun k => (kV k, kD k)) := each_of rv2 fun p _ u h => h
  have e2 : PySem.W.EachIs (fun u (p : V × D) => ∃ as, Reads (s1.heap.push (seqObj "list" out.toArray 0)) u p.2 as ∧ s1.heap.objs.size ∉ as) out (ms.map fun k => (kV k, kD k)) := each_of rv2 fun p hp u h => by
    obtain ⟨k, _, rfl⟩ := List.mem_map.mp hp
    exact ⟨[], reads_key h, by simp⟩
  refine wpAny_bind (wpAny_holding ?_)
  refine PySem.W.list_sort_data (s := { s1 with heap := s1.heap.push (seqObj "list" out.toArray 0) }) hoL e1 e2 al so (by rw [List.length_map, sizeLine_eq]; omega) (fun b hb => ?_) fun out2 ho2 eo => ?_
  · obtain ⟨k, _, rfl⟩ := List.mem_map.mp hb
    have : (kD k).depth = 0 := by cases k <;> rfl
    simp only [units_in1, this]; omega
  obtain ⟨e', he'⟩ := PyProof.Rows.sortedHeap_at (vs := out) (out := List.toArray out2) hoL
  refine wpAny_pure ⟨_, rfl, ⟨.ref s1.heap.objs.size, upd H s1.heap.objs.size (.lst (((ms.map fun k => (kV k, kD k)).mergeSort (PySem.W.dataLe false Prod.snd)).map Prod.fst)), I1.laid (t' := s1.toks) (fun b u e => ?_) (Nat.le_refl _) ⟨?_, out2, e', of_each eo, he'⟩, rfl, q ms s1.heap.objs.size nd mm (I1.hok.fresh (Nat.le_refl _))⟩⟩
  · have hb : b < s1.heap.objs.size := Heap.lt_size e
    rw [PyProof.Rows.sortedHeap_old (Nat.ne_of_lt hb) (by rw [size_push']; exact Nat.lt_succ_of_lt hb)]
    exact Heap.get?_push_of_some _ e
  · rw [List.length_map, List.length_mergeSort, List.length_map, sizeLine_eq]; omega
/-- sorted(set(xs)) -/
def gSortSet (d : D) (Q : Out → Prop) : Prop := ∃ ks : List Key, d = .list (ks.map kD) ∧ ks.length ≤ 2000 ∧ PySem.W.AllAlike (ks.map kD) ∧ PySem.W.Sortable (ks.map kD) ∧ ∀ ms : List Key, ms.Nodup → (∀ k, k ∈ ms ↔ k ∈ ks) → Q (.new (.list (sortD (ms.map kD))))
theorem gSortSet_mono {d : D} {Q Q' : Out → Prop} (h : ∀ o, Q o → Q' o) : gSortSet d Q → gSortSet d Q' := fun ⟨ks, a, b, c, e, f⟩ => ⟨ks, a, b, c, e, fun ms h1 h2 => h _ (f ms h1 h2)⟩
theorem fzl_kD {K : PySem.W.Frag} {M : Hp} : ∀ {ks : List Key} {vs : List V}, FzL K M (ks.map kD) vs → vs = ks.map kV
  | [], vs, h => by simp only [List.map_nil, FzL] at h; exact h
  | k :: ks, vs, h => by
    simp only [List.map_cons, FzL] at h
    obtain ⟨v, r, rfl, h1, h2⟩ := h
    rw [fz_kD] at h1
    rw [h1, fzl_kD h2]; rfl
theorem fe_sortSet {a : Expr} {fs : DA} {x y : Str} {p p2 q pos : Pos} (hc : X.calm = true) (hu : X.A.units + 130 < cLine) (hg : Gl X x) (hm : X.mg x = none) (hv : bootBuiltins x = some (.builtin "sorted")) (hg2 : Gl X y) (hm2 : X.mg y = none) (hv2 : bootBuiltins y = some (.type "set")) (ha : FA X [a] fs)
    (hn : x ≠ "__name__" := by decide) (hdb : (x == ("__debug__" : Str)) = false := by decide) (hn2 : y ≠ "__name__" := by decide) (hdb2 : (y == ("__debug__" : Str)) = false := by decide)
    (hs : starEach [a] X.env = (false, eval a X.env) :: starEach [] X.env := by rfl) (hp : (backTo q (starEach [] X.env)).any (·.1) = false := by rfl)
    (hs2 : starEach [Expr.Call (.Name y p2) [a] [] q] X.env = (false, eval (Expr.Call (.Name y p2) [a] [] q) X.env) :: starEach [] X.env := by rfl) (hp2 : (backTo pos (starEach [] X.env)).any (·.1) = false := by rfl) :
    FE X (.Call (.Name x p) [.Call (.Name y p2) [a] [] q] [] pos) (wN (g1 gSortSet) fs) := by
  refine ⟨pe_imp (pe_callB (cr_sortM hc hu) hg hm hv (pa_cons (pe_callTy (cr_setM hc) hg2 hm2 hv2 ha.pa hn2 hdb2 hs hp) pa_nil hs2) hn hdb hs2 hp2) ?_, fun e Q Q' h w => ha.mono _ _ _ (fun rs e1 ⟨ds, l, w1⟩ => ⟨ds, l, ?_⟩) w⟩
  · rintro σ H Q ⟨P, B, ios, e, T, h, w⟩
    refine ⟨P, B, ios, e, T, h, ha.mono _ _ _ (fun rs e1 w1 vs H1 hl h1 => ?_) w⟩
    obtain ⟨ds, l, w1⟩ := w1
    obtain ⟨M, h1⟩ := h1
    match ds, w1 with
    | [d], w1 =>
      obtain ⟨ks, rfl, kl, al, so, w1⟩ := w1
      obtain ⟨v, rfl, hv⟩ := vwl1 (h1.views hl l)
      obtain ⟨b, us, rfl, hb, f⟩ := hv
      obtain rfl := fzl_kD f
      refine ⟨b, ks, rfl, .inl (.inl hb), kl, fun p hp => ?_⟩
      have h2 : RepM X.K P B M ios e1 σ T (upd H1 p (SetM X.w p ks.length ks)) := h1.popN.alloc hp
      refine ⟨p, ks.length, ks, rfl, upd_same, kl, al, so, fun ms p2 nd mm hp2 => ?_⟩
      refine gives_of (o := .new (.list (sortD (ms.map kD)))) h2 (fun v H' q => w1 ms nd mm v H' q) p2 _ hp2 ⟨_, upd_same, ?_⟩
      have := fzl_pairs (K := X.K) (M := M) (ps := ms.map fun k => (kV k, kD k)) (ds := ms.map kD) (by rw [List.map_map]; rfl) fun p hp => by
        obtain ⟨k, _, rfl⟩ := List.mem_map.mp hp
        exact fz_kVk k
      exact this
  · match ds, w1 with
    | [d], w1 => exact gSortSet_mono (fun o q => h _ _ q) w1
end
end PL
set_option Elab.async false
set_option linter.all false
set_option autoImplicit false
set_option maxRecDepth 100000
set_option maxHeartbeats 4000000
/-! PLzc: list(dict), max(list), min(list), range down. -/
namespace PL
open PySem PySem.Spec PyProof.Rows L2
section
variable {X : Cx}
def gLst2 (d : D) (Q : Out → Prop) : Prop := match d with
  | .dict kds => isTd kds = false ∧ Q (.new (.list (kds.map Prod.fst)))
  | _ => gLst1 d Q
abbrev rLst2 (K : PySem.W.Frag) : List V → Hp → VK → Prop := fun xs H Q => (fun xs H Q => ∃ p ys, xs = [.ref p] ∧ (SqL K H p ys ∨ SqT K H p ys) ∧ ∀ l, H l = none → Q (.ref l) (upd H l (.lst ys))) xs H Q ∨
  (fun xs H Q => ∃ (a : Addr) (kvs : List (Key × V)), xs = [.ref a] ∧ Rd H a (.dK kvs) ∧ ∀ p, H p = none → Q (.ref p) (upd H p (.lst (kvs.map fun kv => kV kv.1)))) xs H Q
theorem cr_lst2 (hc : X.calm = true) : CallR X (.type "list") (rLst2 X.K) := call_list_of.or (call_listD hc)
theorem g_lst2 {K : PySem.W.Frag} : OpN K (rLst2 K) (g1 gLst2) := op_g1 (fun M H d x Q ex v w => by
    cases d with
    | dict kds =>
      obtain ⟨h, w⟩ := w
      obtain ⟨a, rfl, v⟩ := v
      rcases v with ⟨kvs, rd, q, fl⟩ | ⟨kvs, rd, q, fl⟩
      · refine .inr ⟨a, kvs, rfl, rd, fun p hp => w p _ hp ⟨_, upd_same, ?_⟩⟩
        rw [q]
        have := fzl_kVk (K := K) (M := M) (kvs.map Prod.fst)
        rw [List.map_map, List.map_map] at this
        exact this
      · rw [(td_of q).1] at h; cases h
    | list ds => exact .inl (g_lst1.run M H [.list ds] [x] Q ex (by exact ⟨_, _, rfl, v, rfl⟩) w)
    | tuple ds => exact .inl (g_lst1.run M H [.tuple ds] [x] Q ex (by exact ⟨_, _, rfl, v, rfl⟩) w)
    | none => exact (show False from w).elim
    | bool b => exact (show False from w).elim
    | int b => exact (show False from w).elim
    | str b => exact (show False from w).elim) fun d Q Q' h w => by
    cases d with
    | dict kds => exact ⟨w.1, h _ w.2⟩
    | list ds => exact h _ w
    | tuple ds => exact h _ w
    | none => exact (show False from w).elim
    | bool b => exact (show False from w).elim
    | int b => exact (show False from w).elim
    | str b => exact (show False from w).elim
def gMax1 : D → (Out → Prop) → Prop
  | .list ds, Q => ∃ ns, ints? ds = some ns ∧ 0 < ns.length ∧ ∀ m, m ∈ ns → (∀ y, y ∈ ns → y ≤ m) → Q (.val (.int m))
  | _, _ => False
theorem g_max1 {K : PySem.W.Frag} : OpN K (rMax K) (g1 gMax1) := op_g1 (fun M H d x Q ex v w => by
    unfold gMax1 at w
    split at w
    · obtain ⟨ns, h, h0, w⟩ := w
      obtain ⟨a, vs, rfl, r, f⟩ := v
      have := ints_fz h f; subst this
      exact ⟨a, ns, rfl, .inl (.inl r), h0, fun m h1 h2 => w m h1 h2 _ (fzi.mpr rfl)⟩
    · exact w.elim) fun d Q Q' h w => by
    unfold gMax1 at w ⊢
    split at w
    · obtain ⟨ns, q, q0, w⟩ := w; exact ⟨ns, q, q0, fun m h1 h2 => h _ (w m h1 h2)⟩
    · exact w.elim
def gMin1 : D → (Out → Prop) → Prop
  | .list ds, Q => ∃ ns, ints? ds = some ns ∧ 0 < ns.length ∧ ∀ m, m ∈ ns → (∀ y, y ∈ ns → m ≤ y) → Q (.val (.int m))
  | _, _ => False
theorem g_min1 {K : PySem.W.Frag} : OpN K (rMin K) (g1 gMin1) := op_g1 (fun M H d x Q ex v w => by
    unfold gMin1 at w
    split at w
    · obtain ⟨ns, h, h0, w⟩ := w
      obtain ⟨a, vs, rfl, r, f⟩ := v
      have := ints_fz h f; subst this
      exact ⟨a, ns, rfl, .inl (.inl r), h0, fun m h1 h2 => w m h1 h2 _ (fzi.mpr rfl)⟩
    · exact w.elim) fun d Q Q' h w => by
    unfold gMin1 at w ⊢
    split at w
    · obtain ⟨ns, q, q0, w⟩ := w; exact ⟨ns, q, q0, fun m h1 h2 => h _ (w m h1 h2)⟩
    · exact w.elim
/-! range(i, j, -1) -/
def rngDn (lo : Int) (n : Nat) : List Res := (List.range n).map fun i => .fz (.int (lo - (i : Nat)))
theorem walk_rngDn {K : PySem.W.Frag} {P B : Hp} {ios : List (Nat × V)} {T1 : Tmp} {lo : Int} {n : Nat} : WalkOk K P B ios T1 (rngDn lo n) (fun _ => True) (Itc lo (-1) n) := by
  refine ⟨fun i ios' σ' e' T2 H' d' ⟨M3, r3⟩ _ hi => ?_, fun i ios' σ' e' T2 H' _ _ hi => ?_⟩
  · unfold rngDn at hi
    rw [List.getElem?_map, Option.map_eq_some_iff] at hi
    obtain ⟨c, hc, rfl⟩ := hi
    obtain ⟨hlt, hc⟩ := List.getElem?_eq_some_iff.mp hc
    have hlt' : i < n := by simpa using hlt
    have : c = i := by simpa using hc.symm
    subst this
    refine ⟨hlt', fun y H2 hy => ?_⟩
    obtain ⟨rfl, rfl⟩ := hy
    refine ⟨M3, r3.push_fz (fzi.mpr ?_)⟩
    congr 1; omega
  · show n ≤ i
    simpa [rngDn] using hi
def wRngDn (fs : DA) : DI := fun e Q => fs e fun rs e1 => ∃ i j : Int, lookAll e1 rs = some [.int i, .int j, .int (-1)] ∧ (-(2 ^ 62) ≤ i ∧ i < 2 ^ 62 ∧ -(2 ^ 62) ≤ j ∧ j < 2 ^ 62) ∧ Q (rngDn i (i - j).toNat) e1
theorem vwl3 {K : PySem.W.Frag} {M H : Hp} {a b c : D} {vs : List V} (h : VwL K M H [a, b, c] vs) : ∃ x y z, vs = [x, y, z] ∧ Vw K M H a x ∧ Vw K M H b y ∧ Vw K M H c z := by
  obtain ⟨x, r, rfl, h1, h⟩ := h
  obtain ⟨y, z, rfl, h2, h3⟩ := vwl2 h
  exact ⟨x, y, z, rfl, h1, h2, h3⟩
theorem fi_rangeDn {tg a b c : Expr} {fs : DA} {p pos : Pos} (hg : Gl X "range") (hm : X.mg "range" = none) (ha : FA X [a, b, c] fs)
    (hs : starEach [a, b, c] X.env = (false, eval a X.env) :: starEach [b, c] X.env := by rfl) (hpl : (backTo pos (starEach [b, c] X.env)).any (·.1) = false := by rfl) : FI X tg (.Call (.Name "range" p) [a, b, c] [] pos) (wRngDn fs) := by
  refine ⟨pi_imp (pi_range3 hg hm ha.pa hs hpl) ?_, fun e Q Q' h w => ha.mono _ _ _ (fun r e1 ⟨i, j, h1, h2, w1⟩ => ⟨i, j, h1, h2, h _ _ w1⟩) w⟩
  rintro σ H R ⟨P, B, ios, e, T, r, w⟩
  refine ⟨P, B, ios, e, T, r, ha.mono _ _ _ (fun rs e1 w1 vs H1 hl h1 => ?_) w⟩
  obtain ⟨i, j, l, b, w1⟩ := w1
  obtain ⟨M, h1⟩ := h1
  obtain ⟨v, v', v'', rfl, v1, v2, v3⟩ := vwl3 (h1.views hl l)
  rw [vwi] at v1 v2 v3
  exact ⟨i, j, -1, (i - j).toNat, by rw [v1, v2, v3], RgC.neg b.1 b.2.1 b.2.2.1 b.2.2.2, w1 _ _ [] (fun t ht => by simp at ht) (by rw [List.append_nil]; exact ⟨M, h1.popN⟩) fun T1 _ => walk_rngDn⟩
theorem rngDn_len (lo : Int) (n : Nat) : (rngDn lo n).length = n := by simp [rngDn]
theorem rngDn_get {lo : Int} {n i : Nat} {d : Res} (h : (rngDn lo n)[i]? = some d) : i < n ∧ d = .fz (.int (lo - (i : Nat))) := by
  unfold rngDn at h
  rw [List.getElem?_map, Option.map_eq_some_iff] at h
  obtain ⟨c, hc, rfl⟩ := h
  obtain ⟨h1, h2⟩ := List.getElem?_eq_some_iff.mp hc
  have h1' : i < n := by simpa using h1
  have : c = i := by simpa using h2.symm
  rw [this]; exact ⟨h1', rfl⟩
end
end PL
set_option Elab.async false
set_option linter.all false
set_option autoImplicit false
set_option maxRecDepth 100000
set_option maxHeartbeats 4000000
/-! PLzd: equations for simp of PLzb, PLzc; their use. -/
namespace PL
open PySem PySem.Spec PyProof.Rows L2
theorem gLst2_list {ds : List D} {Q : Out → Prop} : gLst2 (.list ds) Q = Q (.new (.list ds)) := rfl
theorem gLst2_tuple {ds : List D} {Q : Out → Prop} : gLst2 (.tuple ds) Q = Q (.new (.list ds)) := rfl
theorem gLst2_dict {kds : List (D × D)} {Q : Out → Prop} : gLst2 (.dict kds) Q = (isTd kds = false ∧ Q (.new (.list (kds.map Prod.fst)))) := rfl
def ints3 (o : Option (List D)) (k : Int → Int → Prop) (_t : Tag k := .mk) : Prop := match o with
  | some [.int i, .int j, .int (-1)] => k i j
  | _ => False
theorem ints3_eq {i j : Int} {k : Int → Int → Prop} {t : Tag k} : ints3 (some [.int i, .int j, .int (-1)]) k t = k i j := rfl
theorem wRngDn_eq {gs : DA} {e : DEnv} {Q : List Res → DEnv → Prop} : wRngDn gs e Q = gs e fun rs e1 => ints3 (lookAll e1 rs) fun i j => (-(2 ^ 62) ≤ i ∧ i < 2 ^ 62 ∧ -(2 ^ 62) ≤ j ∧ j < 2 ^ 62) ∧ Q (rngDn i (i - j).toNat) e1 := by
  have : ∀ (o : Option (List D)) (k : Int → Int → Prop), (∃ i j, o = some [.int i, .int j, .int (-1)] ∧ k i j) = ints3 o k := by
    intro o k
    apply propext
    constructor
    · rintro ⟨i, j, rfl, w⟩; exact w
    · intro w
      unfold ints3 at w
      split at w
      · exact ⟨_, _, rfl, w⟩
      · exact w.elim
  simp only [wRngDn, this]
theorem gMax1_ints {ns : List Int} {Q : Out → Prop} (h0 : ns ≠ []) (h : ∀ m, m ∈ ns → (∀ y, y ∈ ns → y ≤ m) → Q (.val (.int m))) : gMax1 (.list (ns.map .int)) Q := ⟨ns, ints_map ns, List.length_pos_iff.mpr h0, h⟩
theorem gMin1_ints {ns : List Int} {Q : Out → Prop} (h0 : ns ≠ []) (h : ∀ m, m ∈ ns → (∀ y, y ∈ ns → m ≤ y) → Q (.val (.int m))) : gMin1 (.list (ns.map .int)) Q := ⟨ns, ints_map ns, List.length_pos_iff.mpr h0, h⟩
/-- sorted(set(texts)): a list of the same texts, each once -/
theorem gSortSet_strs {zs : List Str} {Q : Out → Prop} (hl : zs.length ≤ 2000) (h : ∀ ys : List Str, ys.Nodup → (∀ y, y ∈ ys ↔ y ∈ zs) → (ys.map PyData.str).Pairwise (fun a b => PySem.W.dataLe false (id : D → D) a b = true) → Q (.new (.list (ys.map .str)))) : gSortSet (.list (zs.map .str)) Q := by
  refine ⟨zs.map Sum.inr, by rw [List.map_map]; rfl, by rw [List.length_map]; exact hl, ?_, ?_, fun ms nd mm => ?_⟩
  · rw [List.map_map]
    intro d hd e he
    obtain ⟨a, _, rfl⟩ := List.mem_map.mp hd
    obtain ⟨b, _, rfl⟩ := List.mem_map.mp he
    rfl
  · rw [List.map_map]
    right
    intro d hd
    obtain ⟨a, _, rfl⟩ := List.mem_map.mp hd
    exact ⟨fun z => (by cases z), fun xs z => (by cases z)⟩
  · have hms : ∃ zs2 : List Str, ms = zs2.map Sum.inr := by
      have : ∀ k ∈ ms, ∃ z, k = Sum.inr z := fun k hk => by
        obtain ⟨z, _, rfl⟩ := List.mem_map.mp ((mm k).mp hk)
        exact ⟨z, rfl⟩
      clear nd mm
      induction ms with
      | nil => exact ⟨[], rfl⟩
      | cons k ms ih =>
        obtain ⟨z, rfl⟩ := this k (by simp)
        obtain ⟨zs2, rfl⟩ := ih fun k hk => this k (List.mem_cons_of_mem _ hk)
        exact ⟨z :: zs2, rfl⟩
    obtain ⟨zs2, rfl⟩ := hms
    have e : (zs2.map (Sum.inr : Str → Key)).map kD = zs2.map PyData.str := by rw [List.map_map]; rfl
    rw [e]
    obtain ⟨ys, h1, h2⟩ := sort_map PyData.str zs2
    have nd2 : zs2.Nodup := List.Pairwise.of_map (S := (· ≠ ·)) _ (fun a b h e => h (by rw [e])) nd
    rw [h1]
    refine h ys (h2.nodup_iff.mpr nd2) (fun y => ?_) ?_
    · rw [h2.mem_iff]
      have := mm (Sum.inr y)
      constructor
      · intro hy
        obtain ⟨z, hz, e⟩ := List.mem_map.mp (this.mp (List.mem_map.mpr ⟨y, hy, rfl⟩))
        rw [← Sum.inr.inj e]; exact hz
      · intro hy
        obtain ⟨z, hz, e⟩ := List.mem_map.mp (this.mpr (List.mem_map.mpr ⟨y, hy, rfl⟩))
        rw [← Sum.inr.inj e]; exact hz
    · have := sortD_pw (zs2.map PyData.str)
      rw [h1] at this
      exact this
theorem gSortSet_ints {zs : List Int} {Q : Out → Prop} (hl : zs.length ≤ 2000) (h : ∀ ys : List Int, ys.Pairwise (· < ·) → (∀ y, y ∈ ys ↔ y ∈ zs) → Q (.new (.list (ys.map .int)))) : gSortSet (.list (zs.map .int)) Q := by
  refine ⟨zs.map Sum.inl, by rw [List.map_map]; rfl, by rw [List.length_map]; exact hl, ?_, ?_, fun ms nd mm => ?_⟩
  · rw [List.map_map]
    intro d hd e he
    obtain ⟨a, _, rfl⟩ := List.mem_map.mp hd
    obtain ⟨b, _, rfl⟩ := List.mem_map.mp he
    rfl
  · rw [List.map_map]
    right
    intro d hd
    obtain ⟨a, _, rfl⟩ := List.mem_map.mp hd
    exact ⟨fun z => (by cases z), fun xs z => (by cases z)⟩
  · have hms : ∃ zs2 : List Int, ms = zs2.map Sum.inl := by
      have : ∀ k ∈ ms, ∃ z, k = Sum.inl z := fun k hk => by
        obtain ⟨z, _, rfl⟩ := List.mem_map.mp ((mm k).mp hk)
        exact ⟨z, rfl⟩
      clear nd mm
      induction ms with
      | nil => exact ⟨[], rfl⟩
      | cons k ms ih =>
        obtain ⟨z, rfl⟩ := this k (by simp)
        obtain ⟨zs2, rfl⟩ := ih fun k hk => this k (List.mem_cons_of_mem _ hk)
        exact ⟨z :: zs2, rfl⟩
    obtain ⟨zs2, rfl⟩ := hms
    have e : (zs2.map (Sum.inl : Int → Key)).map kD = zs2.map PyData.int := by rw [List.map_map]; rfl
    rw [e]
    obtain ⟨ys, h1, h2⟩ := sort_map PyData.int zs2
    have nd2 : zs2.Nodup := List.Pairwise.of_map (S := (· ≠ ·)) _ (fun a b h e => h (by rw [e])) nd
    have nd3 := h2.nodup_iff.mpr nd2
    rw [h1]
    refine h ys ?_ (fun y => ?_)
    · have := sortD_pw (zs2.map PyData.int)
      rw [h1, List.pairwise_map] at this
      have := List.Pairwise.and this nd3
      refine this.imp fun ⟨a, b⟩ => ?_
      rw [le_int, decide_eq_true_iff] at a
      have : _ ≠ _ := b
      omega
    · rw [h2.mem_iff]
      have := mm (Sum.inl y)
      constructor
      · intro hy
        obtain ⟨z, hz, e⟩ := List.mem_map.mp (this.mp (List.mem_map.mpr ⟨y, hy, rfl⟩))
        rw [← Sum.inl.inj e]; exact hz
      · intro hy
        obtain ⟨z, hz, e⟩ := List.mem_map.mp (this.mpr (List.mem_map.mpr ⟨y, hy, rfl⟩))
        rw [← Sum.inl.inj e]; exact hz
end PL
set_option Elab.async false
set_option linter.all false
set_option autoImplicit false
set_option maxRecDepth 100000
set_option maxHeartbeats 4000000
/-! PLze: ranks held. -/
namespace PL
open PySem PySem.Spec PyProof.Rows L2
def Holds (who : Str) (ov : List Str) (day : Int) (r : Rk) : Prop := r.who = who ∧ r.part ∈ ov ∧ r.fst ≤ day ∧ day ≤ r.lst
instance {who : Str} {ov : List Str} {day : Int} {r : Rk} : Decidable (Holds who ov day r) := by unfold Holds; infer_instance
def heldF (who : Str) (ov : List Str) (day : Int) : List Rk → Int → Int
  | [], b => b
  | r :: rs, b => heldF who ov day rs (if Holds who ov day r then (if r.rank > b then r.rank else b) else b)
def held (rks : List Rk) (who : Str) (ov : List Str) (day : Int) : Int := heldF who ov day rks 0
theorem heldF_app {who : Str} {ov : List Str} {day : Int} (r : Rk) : ∀ (rs : List Rk) (b : Int), heldF who ov day (rs ++ [r]) b = (if Holds who ov day r then (if r.rank > heldF who ov day rs b then r.rank else heldF who ov day rs b) else heldF who ov day rs b)
  | [], b => rfl
  | q :: rs, b => by
    rw [List.cons_append, heldF, heldF_app r rs, heldF]
theorem heldF_spec {who : Str} {ov : List Str} {day : Int} : ∀ (rs : List Rk) (b : Int), (heldF who ov day rs b = b ∨ ∃ r ∈ rs, Holds who ov day r ∧ r.rank = heldF who ov day rs b) ∧ b ≤ heldF who ov day rs b ∧ ∀ r ∈ rs, Holds who ov day r → r.rank ≤ heldF who ov day rs b
  | [], b => ⟨.inl rfl, Int.le_refl _, fun r h => by cases h⟩
  | q :: rs, b => by
    rw [heldF]
    obtain ⟨h1, h2, h3⟩ := heldF_spec (who := who) (ov := ov) (day := day) rs (if Holds who ov day q then (if q.rank > b then q.rank else b) else b)
    generalize heldF who ov day rs (if Holds who ov day q then (if q.rank > b then q.rank else b) else b) = v at h1 h2 h3
    by_cases hq : Holds who ov day q
    · rw [if_pos hq] at h1 h2
      refine ⟨?_, by split at h2 <;> omega, fun r hr hh => ?_⟩
      · rcases h1 with h1 | ⟨r, hr, h4, h5⟩
        · split at h1
          · exact .inr ⟨q, by simp, hq, h1.symm⟩
          · exact .inl h1
        · exact .inr ⟨r, List.mem_cons_of_mem _ hr, h4, h5⟩
      · rcases List.mem_cons.mp hr with rfl | hr
        · split at h2 <;> omega
        · exact h3 r hr hh
    · rw [if_neg hq] at h1 h2
      refine ⟨?_, h2, fun r hr hh => ?_⟩
      · rcases h1 with h1 | ⟨r, hr, h4, h5⟩
        · exact .inl h1
        · exact .inr ⟨r, List.mem_cons_of_mem _ hr, h4, h5⟩
      · rcases List.mem_cons.mp hr with rfl | hr
        · exact absurd hh hq
        · exact h3 r hr hh
theorem held_spec (rks : List Rk) (who : Str) (ov : List Str) (day : Int) : (held rks who ov day = 0 ∨ ∃ r ∈ rks, Holds who ov day r ∧ r.rank = held rks who ov day) ∧ 0 ≤ held rks who ov day ∧ ∀ r ∈ rks, Holds who ov day r → r.rank ≤ held rks who ov day := heldF_spec rks 0
/-- the greatest of 0 and some ranks is what is held, where these are the ranks held -/
theorem held_max {rks : List Rk} {who : Str} {ov : List Str} {day m : Int} {ns : List Int} (hn : ∀ n, n ∈ ns ↔ n = 0 ∨ ∃ r ∈ rks, Holds who ov day r ∧ r.rank = n) (h1 : m ∈ ns) (h2 : ∀ y ∈ ns, y ≤ m) : m = held rks who ov day := by
  obtain ⟨a1, a2, a3⟩ := held_spec rks who ov day
  have b1 : held rks who ov day ≤ m := h2 _ ((hn _).mpr (a1.imp id fun ⟨r, x, y, z⟩ => ⟨r, x, y, z⟩))
  rcases (hn m).mp h1 with h | ⟨r, x, y, z⟩
  · omega
  · have := a3 r x y; omega
theorem held_mono {rks : List Rk} {who : Str} {ov ov' : List Str} {day : Int} (h : ∀ z ∈ ov, z ∈ ov') : held rks who ov day ≤ held rks who ov' day := by
  obtain ⟨a1, a2, a3⟩ := held_spec rks who ov day
  obtain ⟨b1, b2, b3⟩ := held_spec rks who ov' day
  rcases a1 with a1 | ⟨r, x, y, z⟩
  · omega
  · rw [← z]; exact b3 r x ⟨y.1, h _ y.2.1, y.2.2⟩
theorem held_nil {rks : List Rk} {who : Str} {day : Int} : held rks who [] day = 0 := by
  obtain ⟨a1, _, _⟩ := held_spec rks who [] day
  rcases a1 with a1 | ⟨r, x, y, z⟩
  · exact a1
  · cases y.2.1
theorem cutD_mem {ds : List D} {lo hi : Option Int} {d : D} (h : d ∈ cutD ds lo hi) : d ∈ ds := List.mem_of_mem_drop (List.mem_of_mem_take h)
theorem cutD_len (ds : List D) (lo hi : Option Int) : (cutD ds lo hi).length ≤ ds.length := by
  unfold cutD
  rw [List.length_take, List.length_drop]; omega
theorem Case.heldLay {zs : List Str} {ps : List (Str × Str)} {h : Ho} (c : Case zs ps h) {k w : Nat} (who z : Str) (day : Int) (hk : 0 ≤ k := by omega) (hw : 40 ≤ w := by omega) : Lay k w (.int (held h.ranks who (over ps z) day)) := by
  obtain ⟨a1, a2, _⟩ := held_spec h.ranks who (over ps z) day
  refine (Lay.int (by omega) ?_).mono hk hw
  rcases a1 with a1 | ⟨r, hr, _, e⟩
  · omega
  · have := (c.ho.rk r hr).r1; omega
theorem cut_strs (zs : List Str) (lo hi : Option Int) : ∃ ys : List Str, cutD (zs.map .str) lo hi = ys.map .str ∧ (∀ y ∈ ys, y ∈ zs) ∧ ys.length ≤ zs.length := by
  refine ⟨(zs.drop (HT.sIx zs.length 0 lo)).take (HT.sIx zs.length zs.length hi - HT.sIx zs.length 0 lo), ?_, fun y hy => List.mem_of_mem_drop (List.mem_of_mem_take hy), ?_⟩
  · unfold cutD
    rw [List.length_map, List.map_take, List.map_drop]
  · rw [List.length_take, List.length_drop]; omega
end PL
set_option Elab.async false
set_option linter.all false
set_option autoImplicit false
set_option maxRecDepth 100000
set_option maxHeartbeats 4000000
/-! PLzf: lists of texts that rise. -/
namespace PL
open PySem PySem.Spec PyProof.Rows L2
abbrev leS (a b : Str) : Bool := PySem.W.dataLe false (id : D → D) (.str a) (.str b)
structure UpS (ys : List Str) : Prop where
  nd : ys.Nodup
  pw : ys.Pairwise fun a b => leS a b = true
theorem leS_anti {a b : Str} (h1 : leS a b = true) (h2 : leS b a = true) : a = b := by
  have e1 : lexLt PyProof.Rows.itemOrd [Sum.inr b.cps.toList] [Sum.inr a.cps.toList] = false := by
    have : (!PyProof.Rows.lexLt PyProof.Rows.itemOrd [Sum.inr b.cps.toList] [Sum.inr a.cps.toList]) = true := h1
    simpa using this
  have e2 : lexLt PyProof.Rows.itemOrd [Sum.inr a.cps.toList] [Sum.inr b.cps.toList] = false := by
    have : (!PyProof.Rows.lexLt PyProof.Rows.itemOrd [Sum.inr a.cps.toList] [Sum.inr b.cps.toList]) = true := h2
    simpa using this
  have := PyProof.Rows.lex_total (O := PyProof.Rows.itemOrd) _ _ e2 e1
  injection this with this _
  exact PySem.W.str_of_cps (Sum.inr.inj this)
theorem UpS.ext : ∀ {xs ys : List Str}, UpS xs → UpS ys → (∀ z, z ∈ xs ↔ z ∈ ys) → xs = ys
  | [], [], _, _, _ => rfl
  | [], y :: ys, _, _, h => absurd ((h y).mpr (by simp)) (by simp)
  | x :: xs, [], _, _, h => absurd ((h x).mp (by simp)) (by simp)
  | x :: xs, y :: ys, hx, hy, h => by
    obtain ⟨n1, p1⟩ := hx
    obtain ⟨n2, p2⟩ := hy
    rw [List.nodup_cons] at n1 n2
    rw [List.pairwise_cons] at p1 p2
    have e : x = y := by
      rcases List.mem_cons.mp ((h x).mp (by simp)) with q | q
      · exact q
      · rcases List.mem_cons.mp ((h y).mpr (by simp)) with r | r
        · exact r.symm
        · exact leS_anti (p1.1 y r) (p2.1 x q)
    subst e
    rw [UpS.ext (xs := xs) (ys := ys) ⟨n1.2, p1.2⟩ ⟨n2.2, p2.2⟩ fun z => ?_]
    have := h z
    rw [List.mem_cons, List.mem_cons] at this
    constructor
    · intro hz
      rcases this.mp (.inr hz) with q | q
      · exact absurd (q ▸ hz) n1.1
      · exact q
    · intro hz
      rcases this.mpr (.inr hz) with q | q
      · exact absurd (q ▸ hz) n2.1
      · exact q
theorem UpS.filter {ys : List Str} (h : UpS ys) (p : Str → Bool) : UpS (ys.filter p) := ⟨h.nd.filter _, h.pw.filter _⟩
theorem gSortSet_up {zs : List Str} {Q : Out → Prop} (hl : zs.length ≤ 2000) (h : ∀ ys : List Str, UpS ys → (∀ y, y ∈ ys ↔ y ∈ zs) → Q (.new (.list (ys.map .str)))) : gSortSet (.list (zs.map .str)) Q :=
  gSortSet_strs hl fun ys h1 h2 h3 => h ys ⟨h1, by rw [List.pairwise_map] at h3; exact h3⟩ h2
theorem nodup_le {α : Type} [DecidableEq α] {xs ys : List α} (h : xs.Nodup) (hs : ∀ x ∈ xs, x ∈ ys) : xs.length ≤ ys.length := by
  apply Classical.byContradiction
  intro hn
  obtain ⟨y, h1, h2⟩ := ex_notin h (by omega : ys.length < xs.length)
  exact h2 (hs y h1)
/-- who holds a rank or a higher one -/
def Hol (rks : List Rk) (rank : Int) (ov : List Str) (day : Int) (y : Str) : Prop := ∃ r ∈ rks, Holds y ov day r ∧ rank ≤ r.rank
theorem hol_iff {rks : List Rk} {rank day : Int} {ov : List Str} {y : Str} (h : 1 ≤ rank) : Hol rks rank ov day y ↔ y ∈ rks.map Rk.who ∧ rank ≤ held rks y ov day := by
  obtain ⟨a1, a2, a3⟩ := held_spec rks y ov day
  constructor
  · rintro ⟨r, h1, h2, h3⟩
    have := a3 r h1 h2
    exact ⟨List.mem_map.mpr ⟨r, h1, h2.1⟩, by omega⟩
  · rintro ⟨_, h2⟩
    rcases a1 with a1 | ⟨r, h3, h4, h5⟩
    · omega
    · exact ⟨r, h3, h4, by omega⟩
theorem bnd_pickN {xs : List D} {k : D → Prop} (P : D → Prop) (h1 : xs ≠ []) (hP : ∀ x ∈ xs, P x) (hk : ∀ x, P x → k x) : bnd (atI xs (-1)) k := by
  obtain ⟨y, hy⟩ : ∃ y, xs.getLast? = some y := by
    cases h : xs.getLast? with
    | some y => exact ⟨y, rfl⟩
    | none => exact absurd (List.getLast?_eq_none_iff.mp h) h1
  exact bnd_mk (atI_last hy) (hk y (hP y (List.mem_of_getLast? hy)))
theorem lt_nodup {xs : List Int} (h : xs.Pairwise (· < ·)) : xs.Nodup := h.imp fun h => by omega
end PL
set_option Elab.async false
set_option linter.all false
set_option autoImplicit false
set_option maxRecDepth 100000
set_option maxHeartbeats 4000000
/-! PLzg: list(text). -/
namespace PL
open PySem PySem.Spec PyProof.Rows L2
section
variable {prog : Program} {w : World} {A : Around} {E : Value → Shared → Prop} {s : Shared}
theorem len_hint {x : Str} {t : Tok} {Q : Bool → Shared → Prop} (h : Q false s) : wpAny (model prog w) A (Builtin.List.listLengthHint (.str x t)) Q E s := by
  have ty : s.TypeIs (.str x t) "str" := rfl
  unfold Builtin.List.listLengthHint
  refine wpAny_bind (wpAny_specialOf ty PySem.F.slot_str_len.lookup ?_); generalize he : ("str.__len__" : String) = i0; wp_delta
  rw [show splitId i0 = some ("str", "__len__") from by subst he; decide +kernel]; subst he
  refine wpAny_bind (wpAny_isInstance (T := "str") (b := true) ty (by rw [isSubtype_type]; kernel_rfl) (wpAny_ite_split (fun c => absurd c (by decide)) fun _ => wpAny_ite_split (fun _ => wpAny_bind (wpAny_typeOf ty (wpAny_pure h))) fun c => absurd (by decide +kernel) c))
theorem extend_text {R : Result → Shared → Prop} (hh : A.handled = none) (x : Str) (t : Tok) (S : Addr) (res : Value) (c₀ : Nat) (hS : s.heap.get? S = some { cls := .type "list", data := .seq #[] c₀ }) (hn : x.cps.size ≤ sizeLine)
    (hR : ∀ h' tk acc c, (∀ b o, b ≠ S → s.heap.get? b = some o → h'.get? b = some o) → h'.get? S = some { cls := .type "list", dict := none, data := .seq acc c, slots := #[] } → ItemsOf (SignAt x) acc x.cps.size → R (.ok (.ret res)) { s with heap := h', toks := tk }) :
    wpAny (model prog w) A.in1 (Builtin.List.listExtendWith (.ref S) (.str x t) res) (fun fin s' => match fin with | .done f => R (.ok f) s' | .again c' => c'.quiet = true ∧ codeAny (model prog w) A c' R s') (fun e s' => R (.error e) s') s := by
  have lt := Heap.lt_size hS
  have nf : S ∉ [s.heap.objs.size] := fun q => Nat.ne_of_lt lt (List.mem_singleton.mp q)
  unfold Builtin.List.listExtendWith
  refine wpAny_bind (wpAny_typeOf (T := "str") (v := .str x t) rfl ?_)
  have n1 : Builtin.List.listSameRef (.ref S) (.str x t) = false := rfl
  have n2 : (Value.type "str" == Value.type "list") = false := by decide
  have n3 : (Value.type "str" == Value.type "tuple") = false := by decide
  simp only [n1, n2, n3, Bool.or_false, Bool.false_eq_true, if_false]
  refine wpAny_bind (wpAny_pyIter_str fun o St W st => ?_); refine wpAny_bind (wpAny_holding (len_hint ?_)); rw [if_neg (by decide)]
  refine wpAny_pure ⟨plainId_quiet PySem.F.plain_extend_loop _, codeAny_extend_loopS (W A.in1 hh).toS hn _ nf _ x.cps.size 0 _ _ _ rfl (Nat.zero_le _) st (Heap.get?_push_of_some _ hS) (ItemsOf.nil _) fun s' acc c mv hS' it => ?_⟩
  rw [Moved.eq_with mv]
  refine hR s'.heap s'.toks acc c (fun b ob hb e => mv.heap b ob (fun q => ?_) (Heap.get?_push_of_some _ e)) hS' it
  rcases List.mem_cons.mp q with q | q
  · exact hb q
  · exact absurd (Heap.lt_size e) (by rw [List.mem_singleton.mp q]; exact Nat.lt_irrefl _)
theorem call_list_text {x : Str} {t : Tok} {Q : Value → Shared → Prop} (hh : A.handled = none) (hn : x.cps.size ≤ sizeLine)
    (hQ : ∀ h' tk acc c, (∀ b o, s.heap.get? b = some o → h'.get? b = some o) → h'.get? s.heap.objs.size = some { cls := .type "list", dict := none, data := .seq acc c, slots := #[] } → ItemsOf (SignAt x) acc x.cps.size → Q (.ref s.heap.objs.size) { s with heap := h', toks := tk }) :
    wpAny (model prog w) A (call (.type "list") [.str x t]) Q E s := by
  refine callType_codes (Q₁ := fun obj s₁ => obj = .ref s.heap.objs.size ∧ s₁ = { s with heap := s.heap.push { cls := .type "list", data := .seq #[] } }) PySem.F.called_list (PySem.F.typeCall_list_1 _) PySem.F.entry_list_init (code_list_new _ ⟨rfl, rfl⟩) fun obj s₁ q => ?_
  obtain ⟨rfl, rfl⟩ := q
  have g0 : (s.heap.push { cls := .type "list", data := .seq #[] }).get? s.heap.objs.size = some { cls := .type "list", data := .seq #[] } := Heap.get?_push_size _ rfl
  refine ⟨⟨_, g0, rfl⟩, PySem.F.args_list_init_2 _ _, ?_⟩
  show wpAny _ _ (do let old ← Builtin.List.listItems (.ref s.heap.objs.size); Builtin.List.listUpdate (.ref s.heap.objs.size) (fun _ => #[]); letGo old.toList.reverse; Builtin.List.listExtendWith (.ref s.heap.objs.size) (.str x t) .none) _ _ _
  refine wpAny_bind ?_; unfold Builtin.List.listItems; refine wpAny_bind (wpAny_seqItems g0 rfl (wpAny_pure ?_))
  show wpAny _ _ (updateSeq s.heap.objs.size (fun _ => #[]) >>= fun _ => letGo (#[] : Array Value).toList.reverse >>= fun _ => Builtin.List.listExtendWith (.ref s.heap.objs.size) (.str x t) .none) _ _ _
  refine wpAny_bind (wpAny_updateSeq g0 rfl (wpAny_bind (wpAny_letGo ?_)))
  refine extend_text (A := A.in1) hh x t s.heap.objs.size .none _ (Heap.get?_update_self (Obj.mapSeq fun _ => (#[] : Array Value)) g0 rfl) hn fun h' tk acc c k hS' it => ?_
  exact ⟨rfl, hQ h' tk acc c (fun b o e => k b o (Nat.ne_of_lt (Heap.lt_size e)) ((Heap.get?_update_other _ _ (Ne.symm (Nat.ne_of_lt (Heap.lt_size e)))).trans (Heap.get?_push_of_some _ e))) hS' it⟩
end
section
variable {X : Cx}
def rLstS : List V → Hp → VK → Prop := fun xs H Q => ∃ z : Str, xs = [.str z] ∧ z.length ≤ 100000 ∧ ∀ p, H p = none → Q (.ref p) (upd H p (.lst (z.cps.toList.map fun c => .str ⟨#[c]⟩)))
theorem call_listS (hc : X.calm = true) : CallR X (.type "list") rLstS := by
  intro pins s σ H xs us Q I r h
  obtain ⟨z, rfl, hz, q⟩ := h
  obtain ⟨u, rfl, t, rfl⟩ := vals1 r
  have hs : z.cps.size ≤ sizeLine := by
    have : z.cps.size = z.length := rfl
    rw [this]; exact Nat.le_trans hz (by decide)
  refine call_list_text (I.ok.hd hc) hs fun h' tk acc c k hD it => ?_
  have rv : Vals (z.cps.toList.map fun c => V.str ⟨#[c]⟩) acc.toList := vals_of_idx _ _ (by rw [Array.length_toList, it.1, List.length_map, Array.length_toList]) fun j u hu => by
    obtain ⟨c, t, h1, rfl⟩ := it.2 j u (by rw [← Array.getElem?_toList]; exact hu)
    exact ⟨.str ⟨#[c]⟩, by rw [List.getElem?_map, Array.getElem?_toList, h1]; rfl, t, rfl⟩
  refine ⟨.ref s.heap.objs.size, upd H s.heap.objs.size (.lst (z.cps.toList.map fun c => .str ⟨#[c]⟩)), I.laid (t' := tk) k (Nat.le_refl _) ⟨?_, acc.toList, c, rv, by rw [Array.toArray_toList]; exact hD⟩, rfl, q _ (I.hok.fresh (Nat.le_refl _))⟩
  rw [List.length_map, Array.length_toList]; exact hs
/-- list(x) of a list, a tuple, a dict, a text -/
def gLst3 (d : D) (Q : Out → Prop) : Prop := match d with
  | .str z => z.length ≤ 100000 ∧ Q (.new (.list (z.cps.toList.map fun c => .str ⟨#[c]⟩)))
  | _ => gLst2 d Q
abbrev rLst3 (K : PySem.W.Frag) : List V → Hp → VK → Prop := fun xs H Q => rLst2 K xs H Q ∨ rLstS xs H Q
theorem cr_lst3 (hc : X.calm = true) : CallR X (.type "list") (rLst3 X.K) := (cr_lst2 hc).or (call_listS hc)
theorem g_lst3 {K : PySem.W.Frag} : OpN K (rLst3 K) (g1 gLst3) := op_g1 (fun M H d x Q ex v w => by
    cases d with
    | str z =>
      rw [vws] at v
      refine .inr ⟨z, by rw [v], w.1, fun p hp => w.2 p _ hp ⟨_, upd_same, ?_⟩⟩
      induction z.cps.toList with
      | nil => exact .nil
      | cons c cs ih => exact .cons (fzs.mpr rfl) ih
    | dict kds => exact .inl (g_lst2.run M H [.dict kds] [x] Q ex (by exact ⟨_, _, rfl, v, rfl⟩) w)
    | list ds => exact .inl (g_lst2.run M H [.list ds] [x] Q ex (by exact ⟨_, _, rfl, v, rfl⟩) w)
    | tuple ds => exact .inl (g_lst2.run M H [.tuple ds] [x] Q ex (by exact ⟨_, _, rfl, v, rfl⟩) w)
    | none => exact (show False from w).elim
    | bool b => exact (show False from w).elim
    | int b => exact (show False from w).elim) fun d Q Q' h w => by
    cases d with
    | str z => exact ⟨w.1, h _ w.2⟩
    | dict kds => exact ⟨w.1, h _ w.2⟩
    | list ds => exact h _ w
    | tuple ds => exact h _ w
    | none => exact (show False from w).elim
    | bool b => exact (show False from w).elim
    | int b => exact (show False from w).elim
end
theorem gLst3_str {z : Str} {Q : Out → Prop} : gLst3 (.str z) Q = (z.length ≤ 100000 ∧ Q (.new (.list (z.cps.toList.map fun c => .str ⟨#[c]⟩)))) := rfl
theorem gLst3_list {ds : List D} {Q : Out → Prop} : gLst3 (.list ds) Q = Q (.new (.list ds)) := rfl
theorem gLst3_tuple {ds : List D} {Q : Out → Prop} : gLst3 (.tuple ds) Q = Q (.new (.list ds)) := rfl
theorem gLst3_dict {kds : List (D × D)} {Q : Out → Prop} : gLst3 (.dict kds) Q = (isTd kds = false ∧ Q (.new (.list (kds.map Prod.fst)))) := rfl
end PL
namespace PL
open PySem PySem.Spec PyProof.Rows L2
/-! ### seats -/
/-- the rules of the first part that has some -/
def rulesF (rus : List Ru) : List Str → List Ru
  | [] => []
  | y :: ys => if (rus.filter fun r => decide (r.part = y)) = [] then rulesF rus ys else rus.filter fun r => decide (r.part = y)
theorem rulesF_mem (rus : List Ru) : ∀ (ys : List Str) (r : Ru), r ∈ rulesF rus ys → r ∈ rus
  | [], _, h => by cases h
  | y :: ys, r, h => by
    rw [rulesF] at h
    split at h
    · exact rulesF_mem rus ys r h
    · exact (List.mem_filter.mp h).1
def bestA (tot : Int) : List Ru → List (Int × Str) → List (Int × Str)
  | [], b => b
  | r :: rs, b => bestA tot rs (if r.sum ≤ tot then r.seats else b)
/-- the seats of the last rule whose sum is not above -/
def bestF (tot : Int) (rs : List Ru) : List (Int × Str) := bestA tot rs []
theorem bestA_app (tot : Int) (r : Ru) : ∀ (rs : List Ru) (b : List (Int × Str)), bestA tot (rs ++ [r]) b = if r.sum ≤ tot then r.seats else bestA tot rs b
  | [], _ => rfl
  | q :: rs, b => by rw [List.cons_append, bestA, bestA_app tot r rs, bestA]
theorem bestF_app {tot : Int} (rs : List Ru) (r : Ru) : bestF tot (rs ++ [r]) = if r.sum ≤ tot then r.seats else bestF tot rs := bestA_app tot r rs []
theorem bestA_len {tot : Int} {n : Nat} : ∀ (rs : List Ru) (b : List (Int × Str)), b.length ≤ n → (∀ r ∈ rs, r.seats.length ≤ n) → (bestA tot rs b).length ≤ n
  | [], _, h, _ => h
  | r :: rs, b, h, k => by
    rw [bestA]
    refine bestA_len rs _ ?_ fun q hq => k q (List.mem_cons_of_mem _ hq)
    split
    · exact k r (by simp)
    · exact h
theorem bestF_len {tot : Int} {n : Nat} {rs : List Ru} (h : ∀ r ∈ rs, r.seats.length ≤ n) : (bestF tot rs).length ≤ n := bestA_len rs [] (Nat.zero_le _) h
def ownSeat (z : Str) (s : Int × Str) : Int × Str := (s.1, if s.2 = PySem.Str.ofString "" then z else s.2)
def seatsF (rus : List Ru) (ov : List Str) (z : Str) (tot : Int) : List (Int × Str) := (bestF tot (rulesF rus ov)).map (ownSeat z)
end PL
set_option Elab.async false
set_option linter.all false
set_option autoImplicit false
set_option maxRecDepth 100000
set_option maxHeartbeats 4000000
/-! PLzh: three names stored at once; the order of (text, number). -/
namespace PL
open PySem PySem.Spec PyProof.Rows L2
section
variable {X : Cx}
def wPar3 (i j l : Nat) (f : DA) : DS := fun D e => f e fun rs e1 => ∃ r1 r2 r3 s1 e2 s2 e3 s3 e4, rs = [r1, r2, r3] ∧ fixR e1 r1 = some (s1, e2) ∧ fixR e2 r2 = some (s2, e3) ∧ fixR e3 r3 = some (s3, e4) ∧ asgn l s3 e4 fun e5 => asgn j s2 e5 fun e6 => asgn i s1 e6 D.nx
theorem fs_par3 {i j l : Nat} {x y z : Str} {a b c : Expr} {fa : DA} {px py pz pt : Pos} {kt k2 pt2} {pos : Pos} (hc : X.calm = true) (hN : X.N.Nodup) (hi : X.N[i]? = some x) (hj : X.N[j]? = some y) (hl : X.N[l]? = some z) (hij : i ≠ j) (hil : i ≠ l) (hjl : j ≠ l)
    (hx : X.env.scope.names.lookup x = some .local) (hy : X.env.scope.names.lookup y = some .local) (hz : X.env.scope.names.lookup z = some .local) (ha : FA X [a, b, c] fa)
    (hw : swappedStores [.Tuple [.Name x px, .Name y py, .Name z pz] kt pt] (.Tuple [a, b, c] k2 pt2) X.env = pure (some [x, y, z]))
    (hs : swapsWithSole [.Tuple [.Name x px, .Name y py, .Name z pz] kt pt] (.Tuple [a, b, c] k2 pt2) pos.line X.env = pure false := by rfl) :
    FS X (.Assign [.Tuple [.Name x px, .Name y py, .Name z pz] kt pt] (.Tuple [a, b, c] k2 pt2) pos) (wPar3 i j l fa) := by
  refine ⟨ps_imp (ps_par3 hc hN hi hj hl hij hil hjl hx hy hz ha.pa hw hs) ?_, fun D D' e h w => ha.mono _ _ _ (fun rs e1 ⟨r1, r2, r3, s1, e2, s2, e3, s3, e4, h1, h2, h3, h4, w1⟩ => ⟨r1, r2, r3, s1, e2, s2, e3, s3, e4, h1, h2, h3, h4, asgn_mono _ _ _ _ _ (fun e5 w2 => asgn_mono _ _ _ _ _ (fun e6 w3 => asgn_mono _ _ _ _ _ h.nx w3) w2) w1⟩) w⟩
  rintro D σ H ⟨P, B, ios, e, T, nl, r, w⟩
  refine ⟨P, B, ios, e, T, r, ha.mono _ _ _ (fun rs e1 w1 vs H1 hl h1 => ?_) w⟩
  obtain ⟨r1, r2, r3, s1, e2, s2, e3, s3, e4, rfl, f1, f2, f3, w1⟩ := w1
  match vs, hl, h1 with
  | [v1, v2, v3], _, ⟨M, h1⟩ =>
    have h1' : RepM X.K P B M ios e1 σ (T ++ (r1, v1) :: [(r2, v2), (r3, v3)]) H1 := h1
    obtain ⟨⟨M1, h2⟩, n1⟩ := fixR_run h1' f1
    have h2' : RepM X.K P B M1 ios e2 σ ((T ++ [(s1, v1)]) ++ (r2, v2) :: [(r3, v3)]) H1 := by simpa using h2
    obtain ⟨⟨M2, h3⟩, n2⟩ := fixR_run h2' f2
    have h3' : RepM X.K P B M2 ios e3 σ ((T ++ [(s1, v1)] ++ [(s2, v2)]) ++ (r3, v3) :: []) H1 := by simpa using h3
    obtain ⟨⟨M3, h4⟩, n3⟩ := fixR_run h3' f3
    have one : ∀ {s : Res} {v : V} (h : ∀ i, s ≠ .loc i), NoLoc [(s, v)] := fun {s v} h t ht i => by
      rw [List.mem_singleton] at ht
      rw [ht]; exact h i
    have nl1 : NoLoc (T ++ [(s1, v1)]) := nl.app (one n1)
    have nl2 : NoLoc (T ++ [(s1, v1)] ++ [(s2, v2)]) := nl1.app (one n2)
    refine ⟨v1, v2, v3, rfl, ?_⟩
    have g1 : gName l v3 σ H1 fun σ' H' => gName j v2 σ' H' fun σ'' H'' => gName i v1 σ'' H'' fun σ3 H3 => D.nx σ3 H3 :=
      asgn_run (K := X.K) ⟨P, B, ios, e4, T ++ [(s1, v1)] ++ [(s2, v2)], s3, nl2.j _, ⟨M3, h4⟩, asgn_mono _ _ _ _ _ (fun e5 w5 σ' H' _ r5 =>
        asgn_run (K := X.K) ⟨P, B, ios, e5, T ++ [(s1, v1)], s2, nl1.j _, r5, asgn_mono _ _ _ _ _ (fun e6 w6 σ'' H'' _ r6 =>
          asgn_run (K := X.K) ⟨P, B, ios, e6, T, s1, nl.j _, r6, asgn_mono _ _ _ _ _ (fun e7 w7 σ3 H3 _ r7 => w7 σ3 H3 r7) w6⟩) w5⟩) w1⟩
    have : D.nx (((σ.set l (some v3)).set j (some v2)).set i (some v1)) H1 := g1
    rwa [set_comm hij, set_comm hil, set_comm hjl] at this
end
/-! ### (text, number) < (text, number) -/
def pLt (a : Str) (i : Int) (b : Str) (j : Int) : Bool := if (a == b) = true then decide (i < j) else sLt a b
def gLtP : D → D → (Out → Prop) → Prop
  | .tuple [.str a, .int i], .tuple [.str b, .int j], Q => Q (.val (.bool (pLt a i b j)))
  | x, y, Q => gLt x y Q
def rLtP (K : PySem.W.Frag) : R2 := fun x y H Q => (rCmp (fun i j => decide (i < j)) sLt) x y H Q ∨ ∃ p q a i b j, x = V.ref p ∧ y = V.ref q ∧ SqT K H p [.str a, .int i] ∧ SqT K H q [.str b, .int j] ∧ Q (V.bl (pLt a i b j)) H
section
variable {X : Cx}
theorem op_ltP2 (hu : X.A.units < cLine) : OpR X (compareOp .Lt) (fun x y H Q => ∃ p q a i b j, x = V.ref p ∧ y = V.ref q ∧ SqT X.K H p [.str a, .int i] ∧ SqT X.K H q [.str b, .int j] ∧ Q (V.bl (pLt a i b j)) H) := by
  intro pins s σ H x y v u Q I rx ry h
  obtain ⟨p, q, a, i, b, j, rfl, rfl, ha, hb, qq⟩ := h
  cases rx
  cases ry
  obtain ⟨its, r1, p1, _⟩ := I.tuple ha
  obtain ⟨its2, r2, p2, _⟩ := I.tuple hb
  obtain ⟨ta, ti, rfl⟩ : ∃ ta ti, its = [Value.str a ta, Value.int i ti] := by
    cases r1 with
    | cons h1 h2 =>
      cases h2 with
      | cons h2 h3 =>
        cases h3
        obtain ⟨t, rfl⟩ := h1
        obtain ⟨t', rfl⟩ := h2
        exact ⟨t, t', rfl⟩
  obtain ⟨tb, tj, rfl⟩ : ∃ ta ti, its2 = [Value.str b ta, Value.int j ti] := by
    cases r2 with
    | cons h1 h2 =>
      cases h2 with
      | cons h2 h3 =>
        cases h3
        obtain ⟨t, rfl⟩ := h1
        obtain ⟨t', rfl⟩ := h2
        exact ⟨t, t', rfl⟩
  have main := Ob.RcOp.tuples_lt (A := X.A) (s := s) (e := fun n => if n = 0 then a == b else i == j) (r := fun n => if n = 0 then sLt a b else decide (i < j)) p1 p2 hu (fun n h1 h2 => ?_) (fun n h1 h2 _ => ?_)
  · refine main X.prog X.w _ _ ⟨.bl (pLt a i b j), H, I, ?_, qq⟩
    show _ = Value.bool _
    congr 1
    show Ob.lexAt _ _ (decide (2 < 2)) 0 2 = pLt a i b j
    unfold pLt
    by_cases h : (a == b) = true
    · rw [if_pos h]
      simp only [Ob.lexAt_succ, Ob.lexAt_zero, if_true, h]
      by_cases h2 : (i == j) = true
      · have : i = j := by simpa using h2
        subst this
        simp
      · simp [h2]
    · rw [if_neg h]
      simp only [Ob.lexAt_succ, if_true, h]
      simp
  · match n, h1, h2 with
    | 0, _, _ => exact PySem.SeqAt.EqAt.str_str a ta b tb
    | 1, _, _ => exact PySem.SeqAt.EqAt.int_int i ti j tj
    | n + 2, h1, _ => exact absurd h1 (by simp)
  · match n, h1, h2 with
    | 0, _, _ => exact fun _ _ _ _ h => lt_str h
    | 1, _, _ => exact Ob.RcOp.lt_int i j ti tj
    | n + 2, h1, _ => exact absurd h1 (by simp)
theorem op_ltP (hu : X.A.units + 1 < cLine) : OpR X (compareOp .Lt) (rLtP X.K) := op_ltA.or (op_ltP2 (by omega))
end
theorem g_ltP {K : PySem.W.Frag} : Op2 K (rLtP K) gLtP where
  run := fun M H d1 d2 x y Q ex v1 v2 w => by
    unfold gLtP at w
    split at w
    · obtain ⟨p, vs, rfl, q1, f1⟩ := v1
      obtain ⟨p', vs', rfl, q2, f2⟩ := v2
      simp only [FzL, Fz] at f1 f2
      obtain ⟨_, _, rfl, rfl, _, _, rfl, rfl, rfl⟩ := f1
      obtain ⟨_, _, rfl, rfl, _, _, rfl, rfl, rfl⟩ := f2
      exact .inr ⟨p, p', _, _, _, _, rfl, rfl, ex.t q1, ex.t q2, w _ (fzb.mpr rfl)⟩
    · exact .inl ((g_cmp _ _).run M H _ _ x y Q ex v1 v2 w)
  mono := fun d1 d2 Q Q' h w => by
    unfold gLtP at w ⊢
    split at w
    · exact h _ w
    · exact (g_cmp (K := K) _ _).mono _ _ _ _ h w
theorem gLtP_t {a b : Str} {i j : Int} {Q : Out → Prop} : gLtP (.tuple [.str a, .int i]) (.tuple [.str b, .int j]) Q = Q (.val (.bool (pLt a i b j))) := rfl
theorem gLtP_i {i j : Int} {Q : Out → Prop} : gLtP (.int i) (.int j) Q = Q (.val (.bool (decide (i < j)))) := rfl
theorem gLtP_s {a b : Str} {Q : Out → Prop} : gLtP (.str a) (.str b) Q = Q (.val (.bool (sLt a b))) := rfl
theorem wPar3_eq {i j l : Nat} {gs : DA} {e : DEnv} {D : DEnds} : wPar3 i j l gs D e = gs e fun rs e1 => bnd rs[0]? fun r1 => bnd rs[1]? fun r2 => bnd rs[2]? fun r3 => rs.length = 3 ∧ bnd (fixR e1 r1) fun p => bnd (fixR p.2 r2) fun q => bnd (fixR q.2 r3) fun u => asgn l u.1 u.2 fun e5 => asgn j q.1 e5 fun e6 => asgn i p.1 e6 D.nx := by
  have : ∀ (rs : List Res) (e1 : DEnv), (∃ r1 r2 r3 s1 e2 s2 e3 s3 e4, rs = [r1, r2, r3] ∧ fixR e1 r1 = some (s1, e2) ∧ fixR e2 r2 = some (s2, e3) ∧ fixR e3 r3 = some (s3, e4) ∧ asgn l s3 e4 fun e5 => asgn j s2 e5 fun e6 => asgn i s1 e6 D.nx) =
      bnd rs[0]? fun r1 => bnd rs[1]? fun r2 => bnd rs[2]? fun r3 => rs.length = 3 ∧ bnd (fixR e1 r1) fun p => bnd (fixR p.2 r2) fun q => bnd (fixR q.2 r3) fun u => asgn l u.1 u.2 fun e5 => asgn j q.1 e5 fun e6 => asgn i p.1 e6 D.nx := by
    intro rs e1
    apply propext
    constructor
    · rintro ⟨r1, r2, r3, s1, e2, s2, e3, s3, e4, rfl, h1, h2, h3, w⟩
      refine ⟨rfl, bnd_mk h1 (bnd_mk h2 (bnd_mk h3 w))⟩
    · intro w
      rw [bnd_iff] at w
      obtain ⟨r1, q1, w⟩ := w
      rw [bnd_iff] at w
      obtain ⟨r2, q2, w⟩ := w
      rw [bnd_iff] at w
      obtain ⟨r3, q3, hl, w⟩ := w
      rw [bnd_iff] at w
      obtain ⟨⟨s1, e2⟩, h1, w⟩ := w
      rw [bnd_iff] at w
      obtain ⟨⟨s2, e3⟩, h2, w⟩ := w
      rw [bnd_iff] at w
      obtain ⟨⟨s3, e4⟩, h3, w⟩ := w
      match rs, hl, q1, q2, q3 with
      | [x, y, z], _, q1, q2, q3 =>
        cases q1; cases q2; cases q3
        exact ⟨_, _, _, _, _, _, _, _, _, rfl, h1, h2, h3, w⟩
  simp only [wPar3, this]
end PL
set_option Elab.async false
set_option linter.all false
set_option autoImplicit false
set_option maxRecDepth 100000
set_option maxHeartbeats 4000000
/-! PLzi: the order of sorted rows, by text and number. -/
namespace PL
open PySem PySem.Spec PyProof.Rows L2
theorem str_ne_cps {a b : Str} (h : a ≠ b) : a.cps.toList ≠ b.cps.toList := fun e => h (PySem.W.str_of_cps e)
theorem itemLt_str {a b : Str} : PyProof.Rows.itemLt (.inr a.cps.toList) (.inr b.cps.toList) = sLt a b := by
  unfold sLt PyProof.Rows.itemLt
  rfl
theorem lex_txt {a b : Str} {l m : List (Int ⊕ List Nat)} (h : a ≠ b) : lexLt PyProof.Rows.itemOrd (Sum.inr a.cps.toList :: l) (Sum.inr b.cps.toList :: m) = sLt a b := by
  rw [PyProof.Rows.lex_diff (O := PyProof.Rows.itemOrd) (fun e => str_ne_cps h (Sum.inr.inj e))]
  exact itemLt_str
theorem lex_num {i j : Int} {l m : List (Int ⊕ List Nat)} (h : i ≠ j) : lexLt PyProof.Rows.itemOrd (Sum.inl i :: l) (Sum.inl j :: m) = decide (i < j) := by
  rw [PyProof.Rows.lex_diff (O := PyProof.Rows.itemOrd) (fun e => h (Sum.inl.inj e))]
  rfl
theorem lex_same {x : Int ⊕ List Nat} {l m : List (Int ⊕ List Nat)} : lexLt PyProof.Rows.itemOrd (x :: l) (x :: m) = lexLt PyProof.Rows.itemOrd l m := PyProof.Rows.lex_self (O := PyProof.Rows.itemOrd) x l m
theorem sLt_total {a b : Str} (h : a ≠ b) (h2 : sLt b a = false) : sLt a b = true := by
  cases h1 : sLt a b with
  | true => rfl
  | false =>
    have e1 := itemLt_str (a := a) (b := b)
    have e2 := itemLt_str (a := b) (b := a)
    have := PyProof.Rows.itemOrd.total (.inr a.cps.toList) (.inr b.cps.toList) (e1.trans h1) (e2.trans h2)
    exact absurd (Sum.inr.inj this) (str_ne_cps h)
theorem sLt_irrefl (a : Str) : sLt a a = false := (itemLt_str (a := a) (b := a)).symm.trans (PyProof.Rows.itemOrd.irrefl (.inr a.cps.toList))
/-- a row's text and number, ahead of all else -/
theorem le_row {a b : Str} {i j : Int} {u v : List D} (h : ¬ (a = b ∧ i = j)) (hle : PySem.W.dataLe false (id : D → D) (.tuple (.str a :: .int i :: u)) (.tuple (.str b :: .int j :: v)) = true) : pLt a i b j = true := by
  have hle : (!lexLt PyProof.Rows.itemOrd (PySem.W.keyToks (.tuple (.str b :: .int j :: v))) (PySem.W.keyToks (.tuple (.str a :: .int i :: u)))) = true := hle
  rw [Bool.not_eq_true'] at hle
  simp only [PySem.W.keyToks, PySem.W.keyToksAll, List.cons_append, List.nil_append] at hle
  replace hle := lex_same.symm.trans hle
  unfold pLt
  by_cases e : a = b
  · subst e
    rw [if_pos (by simp)]
    have hij : i ≠ j := fun e => h ⟨rfl, e⟩
    replace hle := (lex_num (Ne.symm hij)).symm.trans (lex_same.symm.trans (lex_same.symm.trans hle))
    simp only [decide_eq_false_iff_not, decide_eq_true_eq] at hle ⊢
    omega
  · rw [if_neg (by simpa using e)]
    replace hle := (lex_txt (Ne.symm e)).symm.trans hle
    exact sLt_total e hle
theorem le_name {a b : Str} {u v : List D} (h : a ≠ b) (hle : PySem.W.dataLe false (id : D → D) (.tuple (.str a :: u)) (.tuple (.str b :: v)) = true) : sLt a b = true := by
  have hle : (!lexLt PyProof.Rows.itemOrd (PySem.W.keyToks (.tuple (.str b :: v))) (PySem.W.keyToks (.tuple (.str a :: u)))) = true := hle
  rw [Bool.not_eq_true'] at hle
  simp only [PySem.W.keyToks, PySem.W.keyToksAll, List.cons_append, List.nil_append] at hle
  replace hle := lex_same.symm.trans hle
  replace hle := (lex_txt (Ne.symm h)).symm.trans hle
  exact sLt_total h hle
/-- the sorted parts rise by name -/
theorem sort_ps_ris {ps hp : List (Str × Str)} (hnd : (ps.map Prod.fst).Nodup) (h : hp.map pD = sortD (ps.map pD)) : (hp.map Prod.fst).Pairwise fun a b => sLt a b = true := by
  have hpm : hp.Perm ps := by
    have p := sortD_perm (ps.map pD)
    rw [← h] at p
    have inj : ∀ a b : Str × Str, pD a = pD b → a = b := fun a b h => by
      obtain ⟨a1, a2⟩ := a; obtain ⟨b1, b2⟩ := b
      unfold pD at h
      injection h with h; injection h with h1 h2; injection h2 with h2 _; injection h1 with h1; injection h2 with h2
      exact Prod.ext h1 h2
    exact perm_of_map inj p
  have pw := sortD_pw (ps.map pD)
  rw [← h, List.pairwise_map] at pw
  have nd : (hp.map Prod.fst).Nodup := (hpm.map _).nodup_iff.mpr hnd
  rw [List.Nodup, List.pairwise_map] at nd
  rw [List.pairwise_map]
  exact (pw.and nd).imp fun ⟨h1, h2⟩ => le_name h2 h1
/-- sorted rows (text, number, ..) rise -/
theorem sort_rows_ris {us rs : List Ru} {f : Ru → List D} (hnd : (rs.map fun r => (r.part, r.sum)).Nodup) (hpm : us.Perm rs) (h : us.map (fun r => PyData.tuple (.str r.part :: .int r.sum :: f r)) = sortD (rs.map fun r => PyData.tuple (.str r.part :: .int r.sum :: f r))) : us.Pairwise fun a b => pLt a.part a.sum b.part b.sum = true := by
  have pw := sortD_pw (rs.map fun r => PyData.tuple (.str r.part :: .int r.sum :: f r))
  rw [← h, List.pairwise_map] at pw
  have nd : (us.map fun r => (r.part, r.sum)).Nodup := (hpm.map _).nodup_iff.mpr hnd
  rw [List.Nodup, List.pairwise_map] at nd
  exact (pw.and nd).imp fun ⟨h1, h2⟩ => le_row (fun e => h2 (by rw [e.1, e.2])) h1
theorem perm_map_exists {α β : Type} {f : α → β} : ∀ {ys : List β} {xs : List α}, ys.Perm (xs.map f) → ∃ us : List α, us.Perm xs ∧ ys = us.map f := by
  intro ys xs h
  generalize hz : xs.map f = zs at h
  induction h generalizing xs with
  | nil => exact ⟨[], by rw [List.map_eq_nil_iff.mp hz], rfl⟩
  | cons x _ ih =>
    match xs, hz with
    | a :: xs, hz =>
      injection hz with h1 h2
      obtain ⟨us, p, e⟩ := ih h2
      exact ⟨a :: us, p.cons a, by rw [e, List.map_cons, h1]⟩
  | swap x y l =>
    match xs, hz with
    | a :: b :: xs, hz =>
      injection hz with h1 h2
      injection h2 with h2 h3
      exact ⟨b :: a :: xs, List.Perm.swap .., by rw [List.map_cons, List.map_cons, h1, h2, h3]⟩
  | trans _ _ ih1 ih2 =>
    obtain ⟨us, p, e⟩ := ih2 hz
    obtain ⟨vs, p2, e2⟩ := ih1 e.symm
    exact ⟨vs, p2.trans p, e2⟩
theorem sLt_asymm {a b : Str} (h : sLt a b = true) : sLt b a = false := by
  unfold sLt at h ⊢
  rw [decide_eq_true_eq] at h
  rw [decide_eq_false_iff_not]
  exact fun h2 => absurd (List.lt_trans h h2) (List.lt_irrefl _)
/-- sorted(list of rows (text, number, seats)) -/
theorem gSort_rows {rs : List Ru} {Q : Out → Prop} (hp : ∀ r ∈ rs, (∃ n, TOk n r.part) ∧ ∀ s ∈ r.seats, ∃ n, TOk n s.2) (hnd : (rs.map fun r => (r.part, r.sum)).Nodup) (h : ∀ us : List Ru, us.Perm rs → us.Pairwise (fun a b => pLt a.part a.sum b.part b.sum = true) → Q (.new (.list (us.map Ru.d)))) : gSort (.list (rs.map Ru.d)) Q := by
  have hm : ∀ d ∈ rs.map Ru.d, ∃ r ∈ rs, d = r.d := fun d hd => by
    obtain ⟨r, hr, rfl⟩ := List.mem_map.mp hd
    exact ⟨r, hr, rfl⟩
  have hst : ∀ ss : List (Int × Str), (∀ s ∈ ss, ∃ n, TOk n s.2) → PyData.canLayAll0 (ss.map stD) = true := fun ss hs => canLay_all fun d hd => by
    obtain ⟨s, hs', rfl⟩ := List.mem_map.mp hd
    obtain ⟨n, hn⟩ := hs s hs'
    unfold stD
    rw [PyData.canLay0, PyData.canLayAll0, PyData.canLayAll0, PyData.canLayAll0, PyData.canLay0, hn.strOk]; rfl
  have hdp : ∀ ss : List (Int × Str), PyData.depthAll (ss.map stD) ≤ 1 := fun ss => by
    induction ss with
    | nil => simp [PyData.depthAll]
    | cons s ss ih =>
      rw [List.map_cons, PyData.depthAll]
      have : (stD s).depth = 1 := by unfold stD; simp [PyData.depth, PyData.depthAll]
      omega
  have hal : ∀ ss ts : List (Int × Str), PySem.W.alikeAll (ss.map stD) (ts.map stD) = true := fun ss => by
    induction ss with
    | nil => intro ts; rfl
    | cons s ss ih =>
      intro ts
      cases ts with
      | nil => rfl
      | cons t ts =>
        rw [List.map_cons, List.map_cons, PySem.W.alikeAll, ih]
        rfl
  refine gSort_list (canLay_all fun d hd => ?_) (fun d hd => ?_) (fun d hd e he => ?_) (.inl fun d hd => ?_) ?_
  · obtain ⟨r, hr, rfl⟩ := hm d hd
    obtain ⟨⟨n, hn⟩, h2⟩ := hp r hr
    unfold Ru.d Ru.v
    rw [PyData.canLay0, PyData.canLayAll0, PyData.canLayAll0, PyData.canLayAll0, PyData.canLayAll0, hn.strOk, PyData.canLay0, PyData.canLay0, hst _ h2]; rfl
  · obtain ⟨r, hr, rfl⟩ := hm d hd
    have := hdp r.seats
    unfold Ru.d Ru.v
    simp only [PyData.depth, PyData.depthAll]
    omega
  · obtain ⟨r, hr, rfl⟩ := hm d hd
    obtain ⟨q, hq, rfl⟩ := hm e he
    unfold Ru.d Ru.v
    simp only [PySem.W.alike, PySem.W.alikeAll, hal, Bool.and_self]
  · obtain ⟨r, hr, rfl⟩ := hm d hd
    exact ⟨_, _, rfl⟩
  · obtain ⟨us, hpm, he⟩ := perm_map_exists (sortD_perm (rs.map Ru.d))
    rw [he]
    refine h us hpm (sort_rows_ris (f := fun r => [r.v]) hnd hpm ?_)
    exact he.symm
end PL
set_option Elab.async false
set_option linter.all false
set_option autoImplicit false
set_option maxRecDepth 100000
set_option maxHeartbeats 4000000
/-! PLzj: a, b, .. = a list. -/
namespace PL
open PySem PySem.Spec PyProof.Rows L2
def unpL (e : DEnv) : Res → Option (List D)
  | .fz (.list ds) => some ds
  | .ow (.list ds) => some ds
  | .loc i => match e[i]? with
    | some (some (.fz, .list ds)) => some ds
    | some (some (.ow, .list ds)) => some ds
    | _ => none
  | _ => none
section
variable {K : PySem.W.Frag} {P B M : Hp} {ios : List (Nat × V)} {e : DEnv} {σ : L2.St} {T : Tmp} {H : Hp}
theorem RepM.unpackL (r : RepM K P B M ios e σ T H) {x : Res} {v : V} {ds : List D} (h : (x, v) ∈ T) (hl : unpL e x = some ds) : ∃ a vs, v = .ref a ∧ SqL K H a vs ∧ FzL K M ds vs := by
  have one : ∀ {w : V}, Fz K M (.list ds) w → ∃ a vs, w = .ref a ∧ SqL K H a vs ∧ FzL K M ds vs := fun f => by
    simp only [Fz] at f
    obtain ⟨a, vs, rfl, s, f⟩ := f
    exact ⟨a, vs, rfl, .inl (.inl (r.mh _ _ s)), f⟩
  cases x with
  | fz d => cases d <;> first | (cases hl; done) | (cases hl; exact one (r.tfz h))
  | ow d => cases d <;> first | (cases hl; done) | (cases hl; obtain ⟨a, rfl, ⟨vs, q, f⟩, _⟩ := r.tow h; exact ⟨a, vs, rfl, .inl (.inl q), f⟩)
  | loc i =>
    have hs := r.loc i v h
    unfold unpL at hl
    dsimp only at hl
    split at hl
    · rename_i ds' q; cases hl
      obtain ⟨w, s, f⟩ := r.fzS q
      rw [hs] at s; cases s; exact one f
    · rename_i ds' q; cases hl
      obtain ⟨a, s, ⟨vs, q', f⟩, _⟩ := r.owS q rfl
      rw [hs] at s; cases s
      exact ⟨a, vs, rfl, .inl (.inl q'), f⟩
    · cases hl
  | junk => cases hl
end
def wGTupL (n : Nat) (gs : DGs) : DG := fun r e Q => ∃ ds, unpL e r = some ds ∧ ds.length = n ∧ gs ds e Q
section
variable {X : Cx} {es : List Expr} {pos : Pos}
theorem fg_tupL {js : List Nat} {k : Nat} {gs : DGs} {n : Nat} (hc : X.calm = true) (h : FGs X es js gs) (hn : (assignEach es X.env).length = n := by rfl) (hst : (assignEach es X.env).findIdx? (·.1) = none := by rfl) : FG X (.Tuple es k pos) js (wGTupL n gs) := by
  refine ⟨pg_imp (pg_unl hc h.pg hn hst) ?_, fun r e Q Q' hq w => ?_⟩
  · rintro v σ H Q ⟨P, B, ios, e, T, r, nl, ⟨M, h1⟩, ds, l, ln, w⟩
    obtain ⟨p, vs, rfl, q, f⟩ := h1.unpackL (v := v) (by simp) l
    exact ⟨p, vs, rfl, q, by rw [← f.length]; exact ln, P, B, ios, e, T, ds, nl, ⟨M, h1.popN.pushList f⟩, f.length, w⟩
  · obtain ⟨ds, l, ln, w⟩ := w
    exact ⟨ds, l, ln, h.mono _ _ _ _ hq w⟩
end
theorem wGTupL_eq {n : Nat} {gs : DGs} {r : Res} {e : DEnv} {Q : DEnv → Prop} : wGTupL n gs r e Q = bnd (unpL e r) fun ds => ds.length = n ∧ gs ds e Q := by simp only [wGTupL, ex_bnd]
end PL
set_option Elab.async false
set_option linter.all false
set_option autoImplicit false
set_option maxRecDepth 100000
set_option maxHeartbeats 4000000
/-! PLzk: for k in d, d a dict of texts that a slot holds: the dict is locked while the loop runs. -/
namespace PL
open PySem PySem.Spec PyProof.Rows L2
/-- a place that holds a dict, locked or not -/
structure Sw (K : PySem.W.Frag) (a : Addr) (kvs : List (Key × V)) (M M' : Hp) : Prop where
  ne : ∀ b, b ≠ a → M' b = M b
  m : Rd M a (.dK kvs)
  m' : Rd M' a (.dK kvs)
  k : K.lookup a = none
section
variable {K : PySem.W.Frag} {a : Addr} {kvs : List (Key × V)} {M M' : Hp}
theorem Sw.rd (h : Sw K a kvs M M') {b : Addr} {w : HO} (hw : ∀ o v, w ≠ .frz o v) (r : Rd M b w) : Rd M' b w := by
  by_cases e : b = a
  · subst e
    rcases r with r | ⟨o, r⟩
    · rcases h.m with m | ⟨o', m⟩
      · rw [r] at m; cases m; exact h.m'
      · rw [r] at m; injection m with m; exact absurd m (hw _ _)
    · rcases h.m with m | ⟨o', m⟩
      · rw [r] at m; injection m with m; cases m
      · rw [r] at m; injection m with m; injection m with m1 m2; rw [m2]; exact h.m'
  · rcases r with r | ⟨o, r⟩
    · exact .inl ((h.ne b e).trans r)
    · exact .inr ⟨o, (h.ne b e).trans r⟩
theorem Sw.not (h : Sw K a kvs M M') {w : HO} (hw : ∀ o v, w ≠ .frz o v) (r : Rd M a w) : w = .dK kvs := by
  rcases r with r | ⟨o, r⟩
  · rcases h.m with m | ⟨o', m⟩
    · rw [r] at m; injection m
    · rw [r] at m; injection m with m; exact absurd m (hw _ _)
  · rcases h.m with m | ⟨o', m⟩
    · rw [r] at m; injection m with m; cases m
    · rw [r] at m; injection m with m; injection m with m1 m2
theorem Sw.sqL (h : Sw K a kvs M M') {b : Addr} {xs : List V} (r : SqL K M b xs) : SqL K M' b xs := r.imp (h.rd fun _ _ z => by cases z) id
theorem Sw.sqN (h : Sw K a kvs M M') {ds : List D} {b : Addr} {xs : List V} (r : SqN K M ds b xs) : SqN K M' ds b xs := by
  obtain ⟨r1, r2⟩ := r
  have hb : b ≠ a := by
    rintro rfl
    rcases r1 with r1 | ⟨o, _, _, q, _⟩
    · have := h.not (fun _ _ z => by cases z) r1; cases this
    · rw [h.k] at q; cases q
  refine ⟨r1.imp (h.rd fun _ _ z => by cases z) id, fun q => ?_⟩
  rcases r2 q with ⟨o, u, e, d⟩ | r
  · exact .inl ⟨o, u, (h.ne b hb).trans e, d⟩
  · exact .inr r
mutual
theorem Sw.fz (e : Sw K a kvs M M') : ∀ (d : D) (v : V), Fz K M d v → Fz K M' d v
  | .none, v, h => by simpa [Fz] using h
  | .bool b, v, h => by simpa [Fz] using h
  | .int i, v, h => by simpa [Fz] using h
  | .str s, v, h => by simpa [Fz] using h
  | .list ds, v, h => by
    simp only [Fz] at h ⊢
    obtain ⟨b, vs, q, s, t⟩ := h
    refine ⟨b, vs, q, ?_, Sw.fzL e ds vs t⟩
    rw [e.ne b]
    · exact s
    · rintro rfl
      have := e.not (fun _ _ z => by cases z) (Rd.of s); cases this
  | .tuple ds, v, h => by
    simp only [Fz] at h ⊢
    obtain ⟨b, vs, q, s, t⟩ := h
    exact ⟨b, vs, q, e.sqN s, Sw.fzL e ds vs t⟩
  | .dict kds, v, h => by
    simp only [Fz] at h ⊢
    obtain ⟨b, q, t⟩ := h
    refine ⟨b, q, ?_⟩
    rcases t with ⟨kvs, r, k, t⟩ | ⟨kvs, r, k, t⟩
    · exact .inl ⟨kvs, e.rd (fun _ _ z => by cases z) r, k, Sw.fzV e kds _ t⟩
    · exact .inr ⟨kvs, e.rd (fun _ _ z => by cases z) r, k, Sw.fzV e kds _ t⟩
theorem Sw.fzL (e : Sw K a kvs M M') : ∀ (ds : List D) (vs : List V), FzL K M ds vs → FzL K M' ds vs
  | [], vs, h => by simpa [FzL] using h
  | d :: ds, vs, h => by
    simp only [FzL] at h ⊢
    obtain ⟨v, r, q, s, t⟩ := h
    exact ⟨v, r, q, Sw.fz e d v s, Sw.fzL e ds r t⟩
theorem Sw.fzV (e : Sw K a kvs M M') : ∀ (ds : List (D × D)) (vs : List V), FzV K M ds vs → FzV K M' ds vs
  | [], vs, h => by simpa [FzV] using h
  | (k, d) :: ds, vs, h => by
    simp only [FzV] at h ⊢
    obtain ⟨v, r, q, s, t⟩ := h
    exact ⟨v, r, q, Sw.fz e d v s, Sw.fzV e ds r t⟩
end
theorem Sw.own (h : Sw K a kvs M M') {H H' : Hp} (hH : ∀ b, b ≠ a → H' b = H b) {d : D} {p : Addr} (hp : p ≠ a) (r : OwnAt K M H d p) : OwnAt K M' H' d p := by
  cases d <;> simp only [OwnAt] at r ⊢ <;> try exact r.elim
  · obtain ⟨vs, q, t⟩ := r; exact ⟨vs, (hH p hp).trans q, h.fzL _ _ t⟩
  · obtain ⟨vs, q, t⟩ := r; exact ⟨vs, (hH p hp).trans q, h.fzL _ _ t⟩
  · rcases r with ⟨kvs, q, t, u⟩ | ⟨kvs, q, t, u⟩
    · exact .inl ⟨kvs, (hH p hp).trans q, t, h.fzL _ _ u⟩
    · exact .inr ⟨kvs, (hH p hp).trans q, t, h.fzL _ _ u⟩
/-- the whole store, the place at a exchanged -/
theorem Sw.rep (h : Sw K a kvs M M') {P P' B B' H H' : Hp} {ios : List (Nat × V)} {e : DEnv} {σ : L2.St} {T : Tmp}
    (hH : ∀ b, b ≠ a → H' b = H b) (ha : H' a = M' a) (hP : ∀ b, b ≠ a → P' b = P b) (hPa : P' a = none ∨ P' a = M' a) (hB : ∀ b, b ≠ a → B' b = B b) (hBa : B' a = none ∨ B' a = M' a) (hPB : P' a ≠ none → B' a ≠ none)
    (r : RepM K P B M ios e σ T H) : RepM K P' B' M' ios e σ T H' := by
  have hMa : M a ≠ none := by rcases h.m with m | ⟨o, m⟩ <;> rw [m] <;> exact fun z => by cases z
  have c := r.c
  refine ⟨⟨fun b o q => ?_, fun b o q => ?_, fun b o q => ?_, fun b q1 q2 => ?_, c.len, fun i d q => ?_, fun i d q => ?_, fun i k d q hk => ?_, c.inj⟩, r.el, r.loc, r.io⟩
  · by_cases hb : b = a
    · subst hb; rw [ha]; exact q
    · rw [hH b hb]; rw [h.ne b hb] at q; exact c.mh _ _ q
  · by_cases hb : b = a
    · subst hb
      rcases hBa with z | z
      · rw [z] at q; cases q
      · rw [← z]; exact q
    · rw [h.ne b hb]; rw [hB b hb] at q; exact c.bm _ _ q
  · by_cases hb : b = a
    · subst hb
      rcases hPa with z | z
      · rw [z] at q; cases q
      · rw [ha, ← z]; exact q
    · rw [hH b hb]; rw [hP b hb] at q; exact c.ph _ _ q
  · by_cases hb : b = a
    · subst hb; exact .inl (hPB q1)
    · rw [hP b hb] at q1; rw [h.ne b hb] at q2 ⊢; rw [hB b hb]; exact c.pb b q1 q2
  · obtain ⟨v, s, f⟩ := c.fz i d q
    exact ⟨v, s, h.fz d v f⟩
  · obtain ⟨p, ns, s, f, e⟩ := c.sc i d q
    exact ⟨p, ns, s, h.sqL f, e⟩
  · obtain ⟨p, s, o, nm, pp⟩ := c.ow i k d q hk
    have hp : p ≠ a := by
      rintro rfl
      rcases nm with nm | ⟨ds, rfl⟩
      · exact hMa nm
      · simp only [OwnAt] at o
        obtain ⟨vs, o, _⟩ := o
        have mh := c.mh
        rcases h.m with m | ⟨o', m⟩
        · have := mh _ _ m; rw [o] at this; cases this
        · have := mh _ _ m; rw [o] at this; cases this
    exact ⟨p, s, h.own hH hp o, nm.imp (fun z => (h.ne p hp).trans z) id, (hP p hp).trans pp⟩
end
theorem noK {X : Cx} {pins : List (Addr × Obj)} {σ : L2.St} {H : Hp} {s : Shared} {a : Addr} {u : HO} (I : Inv X pins σ H s) (h : H a = some u) : X.K.lookup a = none := by
  cases q : X.K.lookup a with
  | none => rfl
  | some o =>
    have := (I.bs a o (I.mod.kin a o q)).2
    rw [h] at this; cases this
/-- as tLock, with what is known of the place -/
def tLockK (K : PySem.W.Frag) (t : TS) : TS := fun D σ H => ∃ d u, H d = some u ∧ Mut (some u) ∧ ∀ od, K.lookup d = none → t ⟨fun σ' H' => H' d = some (.frz od u) ∧ D.nx σ' (upd H' d u), fun v H' => H' d = some (.frz od u) ∧ D.rt v (upd H' d u), fun σ' H' => H' d = some (.frz od u) ∧ D.bk σ' (upd H' d u), fun σ' H' => H' d = some (.frz od u) ∧ D.ct σ' (upd H' d u)⟩ σ (upd H d (.frz od u))
theorem ps_lockK {X : Cx} {st : Stmt} {t : TS} (h : PS X st t) : PS X st (tLockK X.K t) := by
  refine ⟨fun pins s σ H D I hw => ?_⟩
  obtain ⟨d, u, hd, mu, hw⟩ := hw
  refine (ps_lock h).run pins s σ H D I ⟨d, u, hd, mu, fun od => hw od (noK I hd)⟩
theorem ps_or {X : Cx} {st : Stmt} {t t' : TS} (h : PS X st t) (h' : PS X st t') : PS X st (fun D σ H => t D σ H ∨ t' D σ H) := ⟨fun pins s σ H D I w => w.elim (h.run pins s σ H D I) (h'.run pins s σ H D I)⟩
theorem RepM.reB {K : PySem.W.Frag} {P B B' M : Hp} {ios : List (Nat × V)} {e : DEnv} {σ : L2.St} {T : Tmp} {H : Hp} {a : Addr} (r : RepM K P B M ios e σ T H) (hB : ∀ b, b ≠ a → B' b = B b) (hBa : B' a = none ∨ B' a = M a) (hp : P a ≠ none → B' a ≠ none) : RepM K P B' M ios e σ T H where
  c := { r.c with
    bm := fun b o q => by
      by_cases hb : b = a
      · subst hb
        rcases hBa with z | z
        · rw [z] at q; cases q
        · rw [← z]; exact q
      · rw [hB b hb] at q; exact r.c.bm _ _ q
    pb := fun b q1 q2 => by
      by_cases hb : b = a
      · subst hb; exact .inl (hp q1)
      · rw [hB b hb]; exact r.c.pb b q1 q2 }
  el := r.el
  loc := r.loc
  io := r.io
def wForK (i : Nat) (g : DG) (b : DS) : DS := fun D e => ∃ k kds, e[i]? = some (some (k, .dict kds)) ∧ (k = .fz ∨ k = .ow) ∧ isTd kds = false ∧ forL g b D ((kds.map Prod.fst).map Res.fz) (e.set i (some (.fz, .dict kds)))
section
variable {X : Cx} {sts : List Stmt} {pos : Pos}
theorem forK_core {tg : Expr} {js : List Nat} {gd : DG} {bd : DS} {i : Nat} {a : Addr} {od : Obj} {kvs : List (Key × V)} {kds : List (D × D)} {P B M : Hp} {ios : List (Nat × V)} {e : DEnv} {σ : L2.St} {T : Tmp} {H : Hp} {Dh : Ends} (hg : FG X tg js gd) (hb : FSs X sts bd)
    (nl : NoLoc T) (r : RepM X.K P B M ios e σ T H) (hs : σ[i]? = some (some (.ref a))) (hM : B a = some (.frz od (.dK kvs))) (hk : kds.map Prod.fst = kvs.map fun p => kD p.1)
    (w : forL gd bd (endsOf X.K P B ios T Dh) ((kds.map Prod.fst).map Res.fz) e) : tFor (iKeys (tVar i)) (gOf X.K js gd) (sOf X.K bd) Dh σ H := by
  have hHa : ∀ {ios2 : List (Nat × V)} {σ2 : L2.St} {e2 : DEnv} {T2 : Tmp} {H2 : Hp}, Rep X.K P B ios2 e2 σ2 T2 H2 → H2 a = some (.frz od (.dK kvs)) := fun ⟨M2, r2⟩ => r2.c.mh _ _ (r2.c.bm _ _ hM)
  have hlen : ((kds.map Prod.fst).map Res.fz).length = kvs.length := by rw [hk, List.length_map, List.length_map]
  generalize hit : (kds.map Prod.fst).map Res.fz = items at w hlen
  refine ⟨.ref a, hs, a, od, rfl, .inl ⟨kvs, hHa ⟨M, r⟩, ?_⟩⟩
  refine ⟨fun n m σ' H' => m = items.length - n ∧ n ≤ items.length ∧ ∃ e2, Rep X.K P B ios e2 σ' T H' ∧ forL gd bd (endsOf X.K P B ios T Dh) (items.drop n) e2, ⟨items.length, by omega, by omega, e, ⟨M, r⟩, by simpa using w⟩, ?_⟩
  rintro n m σ2 H2 ⟨rfl, hle, e2, r2, w2⟩
  by_cases hlt : n < items.length
  · have hd : items.drop n = items[n] :: items.drop (n + 1) := List.drop_eq_getElem_cons hlt
    rw [hd] at w2
    refine .inr ⟨⟨hHa r2, by omega⟩, fun σ' H' => ∃ e3, Rep X.K P B ios e3 σ' T H' ∧ forL gd bd (endsOf X.K P B ios T Dh) (items.drop (n + 1)) e3, fun σ' H' hN => ⟨items.length - (n + 1), by omega, rfl, hlt, hN⟩, fun x H3 hy => ?_⟩
    obtain ⟨rfl, k, v, hkv, rfl⟩ := hy
    have hin : items[n] = .fz (kD k) := by
      have : items[n]? = some (.fz (kD k)) := by
        rw [← hit, hk, List.getElem?_map, List.getElem?_map, hkv]; rfl
      obtain ⟨_, h⟩ := List.getElem?_eq_some_iff.mp this
      exact h
    rw [hin] at w2
    obtain ⟨M2, r2⟩ := r2
    have r3 : Rep X.K P B ios e2 σ2 (T ++ [(.fz (kD k), kV k)]) H3 := ⟨M2, r2.push_fz (fz_kD.mpr rfl)⟩
    refine ⟨P, B, ios, e2, T, .fz (kD k), nl.j _, r3, hg.mono _ _ _ _ (fun e3 w3 σ4 H4 _ r4 => ?_) w2⟩
    refine ⟨P, B, ios, e3, T, nl, r4, hb.mono _ _ _ ⟨?_, ?_, ?_, ?_⟩ w3⟩
    · exact fun e5 w5 σ5 H5 r5 => ⟨e5, r5, w5⟩
    · exact fun rr e5 w5 v σ5 H5 r5 => w5 v σ5 H5 r5
    · exact fun e5 w5 σ5 H5 r5 => w5 σ5 H5 r5
    · exact fun e5 w5 σ5 H5 r5 => ⟨e5, r5, w5⟩
  · have hi' : n = items.length := by omega
    subst hi'
    rw [List.drop_length] at w2
    exact .inl ⟨⟨hHa r2, by omega⟩, w2 σ2 H2 r2⟩
theorem fs_forK {tg iter : Expr} {js : List Nat} {gd : DG} {bd : DS} {i : Nat} (hp : PassesOwn (model X.prog X.w) X.A X.env X.xe) (hc : X.calm = true) (hv : PE X iter (tVar i)) (hg : FG X tg js gd) (hb : FSs X sts bd)
    (hs : ∀ x, foldedSetIterable iter X.env x = pure x := by intro _; rfl) : FS X (.For tg iter sts [] pos) (wForK i gd bd) := by
  have base := ps_for (pos := pos) hp hc (pi_keys hv) hg.pg hb.ps hs
  refine ⟨ps_imp (ps_or base (ps_lockK base)) ?_, fun D D' e h w => ?_⟩
  · rintro Dh σ H ⟨P, B, ios, e, T, nl, ⟨M, r⟩, k, kds, hi, hk, hT, w⟩
    obtain ⟨M1, v, hv1, r1, f1⟩ : ∃ M1 v, σ[i]? = some (some v) ∧ RepM X.K P B M1 ios (e.set i (some (.fz, .dict kds))) σ T H ∧ Fz X.K M1 (.dict kds) v := by
      rcases hk with rfl | rfl
      · obtain ⟨v, h1, h2⟩ := r.fzS hi
        exact ⟨M, v, h1, by rw [set_same hi]; exact r, h2⟩
      · obtain ⟨a, h1, _⟩ := r.owS hi rfl
        have r2 := r.push_loc h1
        obtain ⟨M1, _, r3, f⟩ := RepM.freezeAt (T2 := []) (d := .dict kds) (e' := e.set i (some (.fz, .dict kds))) r2 (by simp [frz, hi, fzO, okF])
        exact ⟨M1, _, h1, r3.popN, f⟩
    simp only [Fz] at f1
    obtain ⟨a, rfl, ⟨kvs, rd, hkk, fv⟩ | ⟨kvs, rd, hkk, fv⟩⟩ := f1
    · rcases rd with rd | ⟨od, rd⟩
      · right
        have hHa := r1.c.mh _ _ rd
        refine ⟨a, .dK kvs, hHa, trivial, fun od hk0 => ?_⟩
        have hPa : P a = none ∨ P a = some (.dK kvs) := by
          cases q : P a with
          | none => exact .inl rfl
          | some o => right; rw [← r1.c.ph _ _ q, hHa]
        have hBa : B a = none ∨ B a = some (.dK kvs) := by
          cases q : B a with
          | none => exact .inl rfl
          | some o => right; rw [← r1.c.bm _ _ q, rd]
        have hPB : P a ≠ none → B a ≠ none := fun q => by
          rcases r1.c.pb a q (by rw [rd]; exact fun z => by cases z) with z | ⟨vs, z⟩
          · exact z
          · rw [rd] at z; cases z
        have hP2 : ∃ P2 : Hp, (∀ b, b ≠ a → P2 b = P b) ∧ (P2 a = none ∨ P2 a = some (.frz od (.dK kvs))) := by
          rcases hPa with z | z
          · exact ⟨P, fun _ _ => rfl, .inl z⟩
          · exact ⟨upd P a (.frz od (.dK kvs)), fun b hb => upd_ne hb, .inr upd_same⟩
        obtain ⟨P2, p1, p2⟩ := hP2
        have r2 : RepM X.K P2 (upd B a (.frz od (.dK kvs))) (upd M1 a (.frz od (.dK kvs))) ios (e.set i (some (.fz, .dict kds))) σ T (upd H a (.frz od (.dK kvs))) :=
          Sw.rep (kvs := kvs) ⟨fun b hb => upd_ne hb, .inl rd, .inr ⟨od, upd_same⟩, hk0⟩ (fun b hb => upd_ne hb) (by rw [upd_same, upd_same]) p1 (by rw [upd_same]; exact p2) (fun b hb => upd_ne hb) (.inr (by rw [upd_same, upd_same])) (fun _ => by rw [upd_same]; exact fun z => by cases z) r1
        have back : ∀ {ios2 : List (Nat × V)} {σ2 : L2.St} {e2 : DEnv} {T2 : Tmp} {H2 : Hp}, Rep X.K P2 (upd B a (.frz od (.dK kvs))) ios2 e2 σ2 T2 H2 → H2 a = some (.frz od (.dK kvs)) ∧ Rep X.K P B ios2 e2 σ2 T2 (upd H2 a (.dK kvs)) := by
          rintro ios2 σ2 e2 T2 H2 ⟨M2, r2⟩
          have hM2 := r2.c.bm a _ upd_same
          refine ⟨r2.c.mh _ _ hM2, upd M2 a (.dK kvs), ?_⟩
          exact Sw.rep (kvs := kvs) ⟨fun b hb => upd_ne hb, .inr ⟨od, hM2⟩, .inl upd_same, hk0⟩ (fun b hb => upd_ne hb) (by rw [upd_same, upd_same]) (fun b hb => (p1 b hb).symm) (by rw [upd_same]; exact hPa) (fun b hb => (upd_ne hb).symm) (by rw [upd_same]; exact hBa) hPB r2
        refine forK_core hg hb nl r2 hv1 upd_same hkk ?_
        refine forL_mono hg.mono hb.mono _ _ _ _ ⟨fun e5 w5 σ5 H5 r5 => ?_, fun rr e5 w5 v σ5 H5 r5 => ?_, fun e5 w5 σ5 H5 r5 => ?_, fun e5 w5 σ5 H5 r5 => ?_⟩ w
        · exact ⟨(back r5).1, w5 _ _ (back r5).2⟩
        · exact ⟨(back r5).1, w5 _ _ _ (back r5).2⟩
        · exact ⟨(back r5).1, w5 _ _ (back r5).2⟩
        · exact ⟨(back r5).1, w5 _ _ (back r5).2⟩
      · left
        have hBa : B a = none ∨ B a = some (.frz od (.dK kvs)) := by
          cases q : B a with
          | none => exact .inl rfl
          | some o => right; rw [← r1.c.bm _ _ q, rd]
        have hPB : P a ≠ none → B a ≠ none := fun q => by
          rcases r1.c.pb a q (by rw [rd]; exact fun z => by cases z) with z | ⟨vs, z⟩
          · exact z
          · rw [rd] at z; cases z
        have r2 : RepM X.K P (upd B a (.frz od (.dK kvs))) M1 ios (e.set i (some (.fz, .dict kds))) σ T H := r1.reB (a := a) (fun b hb => upd_ne hb) (.inr (by rw [upd_same, rd])) fun _ => by rw [upd_same]; exact fun z => by cases z
        have back : ∀ {ios2 : List (Nat × V)} {σ2 : L2.St} {e2 : DEnv} {T2 : Tmp} {H2 : Hp}, Rep X.K P (upd B a (.frz od (.dK kvs))) ios2 e2 σ2 T2 H2 → Rep X.K P B ios2 e2 σ2 T2 H2 := by
          rintro ios2 σ2 e2 T2 H2 ⟨M2, r2⟩
          have hM2 := r2.c.bm a _ upd_same
          exact ⟨M2, r2.reB (a := a) (fun b hb => (upd_ne hb).symm) (by rw [hM2]; exact hBa) hPB⟩
        refine forK_core hg hb nl r2 hv1 upd_same hkk ?_
        refine forL_mono hg.mono hb.mono _ _ _ _ ⟨fun e5 w5 σ5 H5 r5 => ?_, fun rr e5 w5 v σ5 H5 r5 => ?_, fun e5 w5 σ5 H5 r5 => ?_, fun e5 w5 σ5 H5 r5 => ?_⟩ w
        · exact w5 _ _ (back r5)
        · exact w5 _ _ _ (back r5)
        · exact w5 _ _ (back r5)
        · exact w5 _ _ (back r5)
    · rw [(td_of hkk).1] at hT; cases hT
  · obtain ⟨k, kds, hi, hk, hT, w⟩ := w
    exact ⟨k, kds, hi, hk, hT, forL_mono hg.mono hb.mono _ _ _ _ h w⟩
end
end PL
set_option Elab.async false
set_option linter.all false
set_option autoImplicit false
set_option maxRecDepth 100000
set_option maxHeartbeats 4000000
/-! PLzl: tuple * number. -/
namespace PL
open PySem PySem.Spec PyProof.Rows L2
open PySem.SeqAt
open PySem.AutoSeq1 (wpAny_loadPart')
open PySem.MeetsSeq PySem.MeetsSeq2 PySem.MeetsSeq3
theorem tuple_mul1 (l : Addr) (items : Array Value) (n : Nat) (dd : Option Addr) (sl : Array (Option Value)) (x : Int) (u : Tok) (c0 : (decide (x < -(2 ^ 63)) || decide (x ≥ 2 ^ 63)) = false) (c1 : (items.isEmpty || x == 1) = true) :
    Meets (Builtin.«tuple.__mul__» ⟨[.ref l, .int x u], []⟩) (fun _ R s => s.heap.get? l = some { cls := .type "tuple", dict := dd, data := .seq items n, slots := sl } ∧ R (.ok (.ret (Value.ref l))) s) :=
  .of_wp fun prog w A R s h => by
    obtain ⟨hp, g, d, tk, os⟩ := s
    obtain ⟨hl, h⟩ := h
    have f1 := AutoSeq1.idx_int
    wp_walk using wpAny_loadPart' hl
    repeat (first
      | (refine wpAny_ite_false (decide_eq_false (by rw [c0]; exact Bool.false_ne_true)) ?_; wp_walk using wpAny_loadPart' hl)
      | (refine wpAny_ite_true (decide_eq_true c1) ?_; wp_walk using wpAny_loadPart' hl))
    exact ⟨_, rfl, h⟩
theorem tuple_mul0 (l : Addr) (items : Array Value) (n : Nat) (dd : Option Addr) (sl : Array (Option Value)) (x : Int) (u : Tok) (c0 : (decide (x < -(2 ^ 63)) || decide (x ≥ 2 ^ 63)) = false) (c1 : (items.isEmpty || x == 1) = false) (c2 : (decide (x ≤ 0) || items.isEmpty) = true) :
    Meets (Builtin.«tuple.__mul__» ⟨[.ref l, .int x u], []⟩) (fun _ R s => s.heap.get? l = some { cls := .type "tuple", dict := dd, data := .seq items n, slots := sl } ∧
      R (.ok (.ret (Value.ref s.heap.objs.size))) { s with heap := s.heap.push { cls := Value.type "tuple", data := Data.seq #[] }, toks := s.toks }) :=
  .of_wp fun prog w A R s h => by
    obtain ⟨hp, g, d, tk, os⟩ := s
    obtain ⟨hl, h⟩ := h
    have f1 := AutoSeq1.idx_int
    wp_walk using wpAny_loadPart' hl
    repeat (first
      | (refine wpAny_ite_false (decide_eq_false (by rw [c0]; exact Bool.false_ne_true)) ?_; wp_walk using wpAny_loadPart' hl)
      | (refine wpAny_ite_false (decide_eq_false (by rw [c1]; exact Bool.false_ne_true)) ?_; wp_walk using wpAny_loadPart' hl)
      | (refine wpAny_ite_true (decide_eq_true c2) ?_; wp_walk using wpAny_loadPart' hl))
    exact ⟨_, rfl, h⟩
def rRepN (K : PySem.W.Frag) : R2 := fun x y H Q => ∃ l k xs, x = V.ref l ∧ y = V.int k ∧ SqT K H l xs ∧ 0 ≤ k ∧ k ≤ 1000 ∧ xs.length ≤ 1000 ∧ (xs = [] ∨ k = 1 → Q (.ref l) H) ∧ (¬ (xs = [] ∨ k = 1) → ∀ p o, H p = none → o.dict = none → Q (.ref p) (upd H p (.frz o (.tup (List.replicate k.toNat xs).flatten))))
section
variable {X : Cx}
theorem op_repN : OpR X (binaryOp .Mult) (rRepN X.K) := by
  intro pins s σ H x y v u Q I rx ry h
  obtain ⟨l, k, xs, rfl, rfl, hT, h1, h2, hz, q1, q2⟩ := h
  cases rx
  obtain ⟨t, rfl⟩ := ry
  obtain ⟨its, r, ⟨⟨cls, dd, data, sl⟩, ho, hc, n, hd⟩, hs⟩ := I.tuple hT
  simp only at hc hd
  subst hc hd
  have hle : its.length = xs.length := r.length.symm
  have c0 : (decide (k < -(2 ^ 63)) || decide (k ≥ 2 ^ 63)) = false := by
    rw [decide_eq_false (by omega), decide_eq_false (by omega)] <;> rfl
  have hie : its.toArray.isEmpty = decide (xs = []) := by
    cases its with
    | nil =>
      have : xs = [] := List.eq_nil_of_length_eq_zero hle.symm
      rw [this]; rfl
    | cons a b =>
      have : xs ≠ [] := fun e => by rw [e] at hle; cases hle
      rw [decide_eq_false this]; rfl
  by_cases hc1 : xs = [] ∨ k = 1
  · have c1 : (its.toArray.isEmpty || k == 1) = true := by
      rw [hie]
      rcases hc1 with e | e
      · rw [decide_eq_true e]; rfl
      · rw [e]; simp
    exact wpAny_binaryOp_repeat_ref (T := "tuple") (U := "int") (by decide) ⟨_, ho, rfl⟩ (fun s' => typeIs_int s' k t) noFill_tuple_mul F.fills_int_mul F.slot_int_rmul repeat_tuple F.slot_int_index.lookup
      (call_meets F.slot_int_rmul (typeIs_int s k t) F.entry_int_rmul (F.args_int_rmul_2 _ _) (int_rmul_tuple k t l its.toArray n dd sl)
        ⟨ho, rfl, ⟨_, ho, rfl⟩, call_meets F.slot_tuple_mul ⟨_, ho, rfl⟩ F.entry_tuple_mul (F.args_tuple_mul_2 _ _) (tuple_mul1 l its.toArray n dd sl k t c0 c1) ⟨ho, ⟨.ref l, H, I, rfl, q1 hc1⟩⟩⟩)
  · have hn0 : ¬ xs = [] := fun e => hc1 (.inl e)
    have hk1 : ¬ k = 1 := fun e => hc1 (.inr e)
    have hi : its.toArray.isEmpty = false := by rw [hie, decide_eq_false hn0]
    have c1 : (its.toArray.isEmpty || k == 1) = false := by
      rw [hi, Bool.false_or]
      exact beq_eq_false_iff_ne.mpr hk1
    have q2 := q2 hc1
    by_cases hk : k ≤ 0
    · have c2 : (decide (k ≤ 0) || its.toArray.isEmpty) = true := by rw [decide_eq_true hk]; rfl
      have hk0 : k = 0 := by omega
      refine wpAny_binaryOp_repeat_ref (T := "tuple") (U := "int") (by decide) ⟨_, ho, rfl⟩ (fun s' => typeIs_int s' k t) noFill_tuple_mul F.fills_int_mul F.slot_int_rmul repeat_tuple F.slot_int_index.lookup
        (call_meets F.slot_int_rmul (typeIs_int s k t) F.entry_int_rmul (F.args_int_rmul_2 _ _) (int_rmul_tuple k t l its.toArray n dd sl)
          ⟨ho, rfl, ⟨_, ho, rfl⟩, call_meets F.slot_tuple_mul ⟨_, ho, rfl⟩ F.entry_tuple_mul (F.args_tuple_mul_2 _ _) (tuple_mul0 l its.toArray n dd sl k t c0 c1 c2) ⟨ho, ?_⟩⟩)
      have q3 := q2 s.heap.objs.size { cls := .type "tuple", data := .seq ([] : List Value).toArray } (I.hok.fresh (Nat.le_refl _)) rfl
      subst hk0
      exact ⟨.ref s.heap.objs.size, _, laidN (its := []) (xs := []) I (Nat.zero_le _) .nil, rfl, q3⟩
    · have hm : ((its.toArray.size : Nat) : Int) * k ≤ 1000000 := by
        rw [List.size_toArray, hle]
        have a1 : ((xs.length : Nat) : Int) * k ≤ 1000 * k := Int.mul_le_mul_of_nonneg_right (by omega) (by omega)
        omega
      have flen : (List.replicate k.toNat its).flatten.length ≤ sizeLine := by
        rw [PyProof.Rows.lm_len_rep_flat, hle, sizeLine_eq]
        have a1 : k.toNat * xs.length ≤ 1000 * 1000 := Nat.mul_le_mul (by omega) hz
        omega
      have c2 : (decide (k ≤ 0) || its.toArray.isEmpty) = false := by
        rw [hi, Bool.or_false]
        exact decide_eq_false (by omega)
      have c4 : Builtin.Tuple.tupleTooMany (((its.toArray.size : Nat) : Int) * k) = false := by
        unfold Builtin.Tuple.tupleTooMany
        rw [sizeLine_eq]
        exact decide_eq_false (by omega)
      refine wpAny_binaryOp_repeat_ref (T := "tuple") (U := "int") (by decide) ⟨_, ho, rfl⟩ (fun s' => typeIs_int s' k t) noFill_tuple_mul F.fills_int_mul F.slot_int_rmul repeat_tuple F.slot_int_index.lookup
        (call_meets F.slot_int_rmul (typeIs_int s k t) F.entry_int_rmul (F.args_int_rmul_2 _ _) (int_rmul_tuple k t l its.toArray n dd sl)
          ⟨ho, rfl, ⟨_, ho, rfl⟩, call_meets F.slot_tuple_mul ⟨_, ho, rfl⟩ F.entry_tuple_mul (F.args_tuple_mul_2 _ _) (tuple_mulW l its.toArray n dd sl k t c0 c1 c2 (by omega) c4 (by rw [size_rep, List.size_toArray]; exact flen)) ⟨ho, ?_⟩⟩)
      rw [size_rep]
      exact ⟨.ref s.heap.objs.size, _, laidN I (by rw [PyProof.Rows.lm_len_rep_flat, sizeLine_eq]; have a1 : k.toNat * xs.length ≤ 1000 * 1000 := Nat.mul_le_mul (by omega) hz; omega) (r.rep k.toNat), rfl, q2 _ _ (I.hok.fresh (Nat.le_refl _)) rfl⟩
end
/-- tuple * number -/
def gMulT : D → D → (Out → Prop) → Prop
  | .tuple a, .int k, Q => (0 ≤ k ∧ k ≤ 1000 ∧ a.length ≤ 1000) ∧ Q (.tup (List.replicate k.toNat a).flatten)
  | _, _, _ => False
theorem g_mulT {K : PySem.W.Frag} : Op2 K (rRepN K) gMulT where
  run := fun M H d1 d2 x y Q ex v1 v2 w => by
    unfold gMulT at w
    split at w
    · obtain ⟨p, vs, rfl, q1, f1⟩ := v1
      rw [vwi] at v2
      rename_i Q0 a k
      have hl := f1.length
      obtain ⟨⟨w1, w2, w3⟩, w⟩ := w
      refine ⟨p, _, vs, rfl, v2, ex.t q1, w1, w2, by omega, fun hc => ?_, fun hc p' o hp ho => ?_⟩
      · refine w.1 _ ?_
        have e : (List.replicate k.toNat a).flatten = a := by
          rcases hc with hc | hc
          · subst hc
            have : a = [] := List.eq_nil_of_length_eq_zero hl
            subst this
            simp
          · subst hc
            simp
        rw [e]
        simp only [Fz]
        exact ⟨p, vs, rfl, q1, f1⟩
      · exact w.2 p' _ o hp ho (rep_fz f1 _)
    · exact w.elim
  mono := fun d1 d2 Q Q' h w => by
    unfold gMulT at w ⊢
    split at w
    · exact ⟨w.1, h _ w.2⟩
    · exact w.elim
theorem gMulT_eq {a : List D} {k : Int} {Q : Out → Prop} : gMulT (.tuple a) (.int k) Q = ((0 ≤ k ∧ k ≤ 1000 ∧ a.length ≤ 1000) ∧ Q (.tup (List.replicate k.toNat a).flatten)) := rfl
def dkAt (e : DEnv) (i : Nat) : Option (List (D × D)) := match e[i]? with
  | some (some (.fz, .dict kds)) => some kds
  | some (some (.ow, .dict kds)) => some kds
  | _ => none
theorem wForK_eq {i : Nat} {g : DG} {b : DS} {D : DEnds} {e : DEnv} : wForK i g b D e = bnd (dkAt e i) fun kds => isTd kds = false ∧ forLT g b D ((kds.map Prod.fst).map Res.fz) (e.set i (some (.fz, .dict kds))) := by
  apply propext
  unfold wForK dkAt
  constructor
  · rintro ⟨k, kds, h, rfl | rfl, hT, w⟩
    · rw [h]; exact ⟨hT, w⟩
    · rw [h]; exact ⟨hT, w⟩
  · intro w
    rw [bnd_iff] at w
    obtain ⟨kds, h, hT, w⟩ := w
    split at h
    · rename_i q; cases h; exact ⟨_, _, q, .inl rfl, hT, w⟩
    · rename_i q; cases h; exact ⟨_, _, q, .inr rfl, hT, w⟩
    · cases h
end PL
set_option Elab.async false
set_option linter.all false
set_option autoImplicit false
set_option maxRecDepth 100000
set_option maxHeartbeats 4000000
/-! PLzm: {k: v}, list.pop(i), str of data. -/
namespace PL
open PySem PySem.Spec PyProof.Rows L2
section
variable {X : Cx}
theorem isK_some {d : D} (h : isK d = true) : ∃ k : Key, d = kD k := by
  cases d with
  | int i => exact ⟨.inl i, rfl⟩
  | str z => exact ⟨.inr z, rfl⟩
  | _ => cases h
/-- {k: v} -/
def wDisp1 (fk fv : DE) : DE := fun e Q => fk e fun rk e1 => fv e1 fun rv e2 => ∃ k v e3, frzAll e2 [rk, rv] = some ([k, v], e3) ∧ isK k = true ∧ Q (.ow (.dict [(k, v)])) e3
theorem fe_disp1 {a b : Expr} {fk fv : DE} {pos : Pos} (hk : FE X a fk) (hv : FE X b fv) : FE X (.Dict [some a] [b] pos) (wDisp1 fk fv) := by
  refine ⟨pe_imp (pe_disp (pps_cons hk.pe hv.pe pps_nil) rfl rfl (by simp) (by simp)) ?_, fun e Q Q' h w => hk.mono _ _ _ (fun rk e1 w1 => hv.mono _ _ _ (fun rv e2 ⟨k, v, e3, h1, h2, w2⟩ => ⟨k, v, e3, h1, h2, h _ _ w2⟩) w1) w⟩
  rintro σ H Q ⟨P, B, ios, e, T, ⟨M, r⟩, w⟩ p hp
  have r1 : RepM X.K P B M ios e σ (T ++ [(.ow (.dict []), .ref p)]) (upd H p (.dK [])) :=
    (r.alloc hp).push_ow (.inl ⟨[], upd_same, rfl, .nil⟩) (.inl (r.mh.none hp)) (r.c.ph.none hp) fun i k d' h hk => r.c.ne_new hp h hk
  refine ⟨P, B, ios, e, _, ⟨M, r1⟩, hk.mono _ _ _ (fun rk e1 w1 x H1 h1 => ?_) w⟩
  refine ⟨P, B, ios, e1, _, h1, hv.mono _ _ _ (fun rv e2 w2 y H2 h2 => ?_) w1⟩
  obtain ⟨k, v, e3, hf, hkk, w2⟩ := w2
  obtain ⟨key, rfl⟩ := isK_some hkk
  obtain ⟨M2, h2⟩ := h2
  have h2' : RepM X.K P B M2 ios e2 σ ((T ++ [(.ow (.dict []), .ref p)]) ++ [rk, rv].zip [x, y]) H2 := by simpa using h2
  obtain ⟨M3, _, r3, f3⟩ := h2'.freezeAll rfl hf
  obtain ⟨v1, rs, e1', f1, f2⟩ : ∃ v1 rs, [x, y] = v1 :: rs ∧ Fz X.K M3 (kD key) v1 ∧ FzL X.K M3 [v] rs := by simpa only [FzL] using f3
  obtain ⟨w1', rfl, fv⟩ := fzl1 f2
  injection e1' with e1' e2'
  injection e2' with e2' _
  subst e1' e2'
  have hx := fz_kD.mp f1
  subst hx
  have r4 : RepM X.K P B M3 ios e3 σ (T ++ [(.ow (.dict []), .ref p)]) H2 := r3.popN
  obtain ⟨a', ha, own, nm, pn⟩ := r4.tow (d := .dict []) (v := .ref p) (by simp)
  cases ha
  have hM : M3 p = none := nm.none fun ds z => by cases z
  have hH2 : H2 p = some (.dK []) := by
    rcases own with ⟨kvs, q, t, u⟩ | ⟨kvs, q, t, u⟩
    · have : kvs = [] := by
        have := congrArg List.length t
        simpa using this.symm
      rw [q, this]
    · have := congrArg List.length t
      simp at this
  refine ⟨hH2, [(key, y)], rfl, by simp, ?_⟩
  refine w2 (.ref p) _ ⟨M3, ?_⟩
  exact RepM.mutT (T2 := []) r4 hM (.inl ⟨[(key, y)], upd_same, rfl, .cons fv .nil⟩)
end
theorem wDisp1_eq {fk fv : DE} {e : DEnv} {Q : Res → DEnv → Prop} : wDisp1 fk fv e Q = fk e fun rk e1 => fv e1 fun rv e2 => bnd (frzAll e2 [rk, rv]) fun p => two p.1 fun k v => isK k = true ∧ Q (.ow (.dict [(k, v)])) p.2 := by
  have : ∀ rk rv (e2 : DEnv), (∃ k v e3, frzAll e2 [rk, rv] = some ([k, v], e3) ∧ isK k = true ∧ Q (.ow (.dict [(k, v)])) e3) = bnd (frzAll e2 [rk, rv]) fun p => two p.1 fun k v => isK k = true ∧ Q (.ow (.dict [(k, v)])) p.2 := by
    intro rk rv e2
    apply propext
    constructor
    · rintro ⟨k, v, e3, h, w⟩
      exact bnd_mk h w
    · intro w
      rw [bnd_iff] at w
      obtain ⟨⟨ds, e3⟩, h, w⟩ := w
      match ds, h, w with
      | [k, v], h, w => exact ⟨k, v, e3, h, w⟩
      | [], _, w => exact w.elim
      | [_], _, w => exact w.elim
      | _ :: _ :: _ :: _, _, w => exact w.elim
  simp only [wDisp1, this]
/-- list.pop(i) -/
def gPopAt : D → List D → (D → Out → Prop) → Prop
  | .list ds, [.int i], Q => ∃ k d, (0 ≤ i ∧ i < 2 ^ 60) ∧ i.toNat = k ∧ ds[k]? = some d ∧ Q (.list (ds.eraseIdx k)) (.val d)
  | _, _, _ => False
theorem g_popAt {K : PySem.W.Frag} : OpMut K "list" rPopAt isL gPopAt where
  ty := fun M H d a o l => tyL o l
  run := fun M H d a ds vs Q ex hm o f w => by
    unfold gPopAt at w
    split at w
    · obtain ⟨us, q, fl⟩ := o
      obtain ⟨v, rfl, fv⟩ := fzl1 f
      rw [fzi] at fv
      subst fv
      obtain ⟨k, d, ⟨h0, h1⟩, hk, hd, w⟩ := w
      obtain ⟨y, hy, fy⟩ := fl.get hd
      have hlt := (List.getElem?_eq_some_iff.mp hy).1
      refine ⟨a, us, _, k, y, rfl, rfl, q, by omega, by omega, ?_, hy, w _ ⟨_, upd_same, fl.eraseIdx k⟩ _ fy⟩
      unfold seqIndex?
      simp only []
      rw [if_neg (show ¬ _ < (0 : Int) by omega), if_pos (by rw [Bool.and_eq_true, decide_eq_true_eq, decide_eq_true_eq]; omega), hk]
    · exact w.elim
  mono := fun d ds Q Q' h w => by
    unfold gPopAt at w ⊢
    split at w
    · obtain ⟨k, d, h0, hk, hd, w⟩ := w
      exact ⟨k, d, h0, hk, hd, h _ _ w⟩
    · exact w.elim
theorem gPopAt_0 {d : D} {ds : List D} {Q : D → Out → Prop} : gPopAt (.list (d :: ds)) [.int 0] Q = Q (.list ds) (.val d) := by
  apply propext
  unfold gPopAt
  constructor
  · rintro ⟨k, d', _, rfl, h, w⟩
    cases h
    exact w
  · intro w
    exact ⟨0, d, ⟨by omega, by decide⟩, rfl, rfl, w⟩
/-! ### str of a list, a tuple, a text, a number -/
def rStrC (K : PySem.W.Frag) : List V → Hp → VK → Prop := fun xs H Q => ∃ a d, xs = [.ref a] ∧ Dp K H (.ref a) d ∧ d.canLay0 = true ∧ d.showable = true ∧ d.depth ≤ 64 ∧ d.shown.length ≤ sizeLine ∧ Q (.str d.shown) H
section
variable {X : Cx}
theorem call_strC (hG : X.A.guards = some []) (hu : X.A.units + 130 < cLine) : CallR X (.type "str") (rStrC X.K) := by
  intro pins s σ H xs us Q I r h
  obtain ⟨a, d, rfl, hd, hc, hs, hdp, hz, q⟩ := h
  obtain ⟨u, rfl, ru⟩ := r.one
  obtain ⟨as, rd⟩ := Dp.reads I d _ u hd ru
  cases ru
  exact PySem.str_of_reads rd hs (PyData.noDict_hsm (PyData.hasDict_of_canLay _ hc)) hG (by omega) (fun _ _ e => e) (fun h' u tk hk => ⟨.str _, H, I.kept hk, ⟨_, rfl⟩, q⟩) hz
abbrev rStrA (K : PySem.W.Frag) : List V → Hp → VK → Prop := fun xs H Q => (fun xs H Q => rStrC K xs H Q ∨ (fun xs H Q => ∃ a, xs = [V.str a] ∧ Q (V.str a) H) xs H Q) xs H Q ∨ (fun xs H Q => ∃ i, xs = [V.int i] ∧ i.natAbs.log2 < 1920 ∧ Q (V.str (toString i)) H) xs H Q
theorem call_strA (hG : X.A.guards = some []) (hu : X.A.units + 130 < cLine) : CallR X (.type "str") (rStrA X.K) := ((call_strC hG hu).or SkE.call_str_str).or call_str_int
end
def gStr : D → (Out → Prop) → Prop
  | .str z, Q => Q (.val (.str z))
  | .int i, Q => i.natAbs.log2 < 1920 ∧ Q (.val (.str (toString i)))
  | .list ds, Q => gRepr (.list ds) Q
  | .tuple ds, Q => gRepr (.tuple ds) Q
  | _, _ => False
theorem g_str {K : PySem.W.Frag} : OpN K (rStrA K) (g1 gStr) := op_g1 (fun M H d x Q ex v w => by
    unfold gStr at w
    split at w
    · rw [vws] at v
      exact .inl (.inr ⟨_, by rw [v], w _ (fzs.mpr rfl)⟩)
    · rw [vwi] at v
      exact .inr ⟨_, by rw [v], w.1, w.2 _ (fzs.mpr rfl)⟩
    · have hd := vw_dp ex w.1.1 v
      obtain ⟨a, vs, rfl, _⟩ := v
      exact .inl (.inl ⟨a, _, rfl, hd, w.1.1, w.1.2.1, w.1.2.2.1, w.1.2.2.2, w.2 _ (fzs.mpr rfl)⟩)
    · have hd := vw_dp ex w.1.1 v
      obtain ⟨a, vs, rfl, _⟩ := v
      exact .inl (.inl ⟨a, _, rfl, hd, w.1.1, w.1.2.1, w.1.2.2.1, w.1.2.2.2, w.2 _ (fzs.mpr rfl)⟩)
    · exact w.elim) fun d Q Q' h w => by
  unfold gStr at w ⊢
  split at w
  · exact h _ w
  · exact ⟨w.1, h _ w.2⟩
  · exact ⟨w.1, h _ w.2⟩
  · exact ⟨w.1, h _ w.2⟩
  · exact w.elim
theorem gStr_l {ds : List D} {Q : Out → Prop} : gStr (.list ds) Q = (((PyData.list ds).canLay0 = true ∧ (PyData.list ds).showable = true ∧ (PyData.list ds).depth ≤ 64 ∧ (PyData.list ds).shown.length ≤ sizeLine) ∧ Q (.val (.str (PyData.list ds).shown))) := rfl
theorem gStr_t {ds : List D} {Q : Out → Prop} : gStr (.tuple ds) Q = (((PyData.tuple ds).canLay0 = true ∧ (PyData.tuple ds).showable = true ∧ (PyData.tuple ds).depth ≤ 64 ∧ (PyData.tuple ds).shown.length ≤ sizeLine) ∧ Q (.val (.str (PyData.tuple ds).shown))) := rfl
end PL
set_option Elab.async false
set_option linter.all false
set_option autoImplicit false
set_option maxRecDepth 100000
set_option maxHeartbeats 4000000
/-! PLzn: sorted(d.items()), d of texts and numbers both ways. -/
namespace PL
open PySem PySem.Spec PyProof.Rows L2
section
variable {X : Cx}
def rItemsK : V → List V → Hp → VK → Prop := fun x xs H Q => ∃ (a : Addr) (kvs : List (Key × V)), x = .ref a ∧ xs = [] ∧ Rd H a (.dK kvs) ∧ ∀ p, H p = none → Q (.ref p) (upd H p (L2.DX.itemsO p a))
theorem mt_itemsK : MtR X "dict.items" rItemsK := by
  intro pins s σ H x xs v us Q I rx rxs h
  obtain ⟨a, kvs, rfl, rfl, ha, q⟩ := h
  cases rx
  cases rxs
  obtain ⟨z, hd, vs, rel, o, es, ep, ho, hx, hdat, _⟩ := dk_rd I.hok ha
  refine DT.callItems (es := es) (ep := ep) hd ⟨o, ho, hx, hdat⟩ ?_
  have hf : H s.heap.objs.size = none := I.hok.fresh (Nat.le_refl _)
  exact ⟨.ref s.heap.objs.size, upd H s.heap.objs.size (L2.DX.itemsO s.heap.objs.size a), I.laid (t' := s.toks) (fun b u e => Heap.get?_push_of_some _ e) (Nat.le_refl _) (L2.DX.itemsO_ok (Heap.get?_push_size _ rfl)), rfl, q _ hf⟩
/-- the pair as data, as values -/
abbrev pDt (p : Key × Key) : D := tD [p.1, p.2]
abbrev pVt (p : Key × Key) : List V := [kV p.1, kV p.2]
def rSortIt2 (_K : PySem.W.Frag) : List V → Hp → VK → Prop := fun xs H Q => ∃ (p a : Addr) (ks : List (Key × Key)), xs = [.ref p] ∧ H p = some (L2.DX.itemsO p a) ∧ Rd H a (.dK (ks.map fun q => (q.1, kV q.2))) ∧
  (∀ q ∈ ks, (pDt q).canLay0 = true ∧ (pDt q).depth ≤ 64) ∧ PySem.W.AllAlike (ks.map pDt) ∧ PySem.W.Sortable (ks.map pDt) ∧
  ∀ (H' : Hp) (l : Addr) (bs : List Addr), Ex H H' → H l = none → bs.length = ks.length → (∀ (j : Nat) b q, bs[j]? = some b → ks[j]? = some q → H' b = some (.tup (pVt q))) → H' l = some (.lst ((((bs.map V.ref).zip (ks.map pDt)).mergeSort (PySem.W.dataLe false Prod.snd)).map Prod.fst)) → Q (.ref l) H'
theorem pairs_at {P : Program} {w : World} : ∀ {es : List DictEntry} {vs : List (Key × Value)} {kvs : List (Key × V)}, Pairs (mixKind P w) es vs → KV kvs vs → ∀ {j : Nat} {en : DictEntry}, es[j]? = some en → ∃ kv, kvs[j]? = some kv ∧ RelV (kV kv.1) en.key ∧ RelV kv.2 en.val
  | _, _, _, .cons h1 h2 t, .cons (a := kv) r rt, 0, en, h => by
    cases h
    refine ⟨kv, rfl, ?_, ?_⟩
    · rw [r.1]; exact relV_key h1
    · rw [h2]; exact r.2
  | _, _, _, .cons h1 h2 t, .cons r rt, j + 1, en, h => by
    exact pairs_at t rt (by simpa using h)
theorem cr_sortIt2 (hc : X.calm = true) (hu : X.A.units + 130 < cLine) : CallR X (.builtin "sorted") (rSortIt2 X.K) := by
  intro pins s σ H xs us Q I r h
  obtain ⟨p, a, ks, rfl, hp, ha, hk, hal, hso, q⟩ := h
  obtain rfl := Vals.ref1 r
  have view : s.heap.IsItemsView p a := (show ObjOk X.prog X.w H s.heap p (L2.DX.itemsO p a) from I.hok p _ hp).1
  obtain ⟨z, hd, vs, rel, o, es, ep, ho, hx, hdat, kof, prs, nd0⟩ := dk_rd I.hok ha
  have l1 : es.size = vs.length := by have := prs.length; rw [← this]; simp
  have l2 : ks.length = vs.length := by have := Paired.length rel; rw [List.length_map] at this; exact this
  have hh : X.A.handled = none := I.ok.hd hc
  rw [List.length_map] at z
  refine DT.sortedI (es := es) (ep := ep) hh view ⟨o, ho, hx, hdat⟩ (by omega) fun h' tk as hk' hlt hl hG => ?_
  have lak : as.length = ks.length := by omega
  have nd : as.Nodup := List.Pairwise.imp (fun h => Nat.ne_of_lt h) hG.rise
  have pr : ∀ (j : Nat) (b : Addr), as[j]? = some b → ∃ (e : Key × Key) (u1 u2 : Value), ks[j]? = some e ∧ RelV (kV e.1) u1 ∧ RelV (kV e.2) u2 ∧ h'.get? b = some { cls := .type "tuple", data := .seq #[u1, u2] } := by
    intro j b hj
    obtain ⟨en, he, hg⟩ := hG.pairs j b hj
    obtain ⟨kv, h1, h2, h3⟩ := pairs_at prs rel (j := j) (en := en) (by rw [← he]; simp)
    rw [List.getElem?_map, Option.map_eq_some_iff] at h1
    obtain ⟨e, h1, rfl⟩ := h1
    exact ⟨e, _, _, h1, h2, h3, hg⟩
  have I1 : Inv X pins σ H { s with heap := h', toks := tk } := I.kept hk'
  obtain ⟨H2, I2, gr, qt⟩ := L2.DX.takeT (P := fun b vs => ∃ (j : Nat) (e : Key × Key), as[j]? = some b ∧ ks[j]? = some e ∧ vs = pVt e) I as H I1 nd fun b hb => by
    obtain ⟨j, hj⟩ := List.mem_iff_getElem?.mp hb
    obtain ⟨e, u1, u2, he, r1, r2, hg⟩ := pr j b hj
    have hbl : s.heap.objs.size ≤ b := Nat.le_of_lt (hG.above b hb)
    exact ⟨hbl, I.hok.fresh hbl, _, ⟨j, e, hj, he, rfl⟩, fun H3 => ⟨(by rw [sizeLine_eq]; show 2 ≤ 16777216; omega), [u1, u2], .cons r1 (.cons r2 .nil), ⟨_, hg, rfl, 0, rfl⟩⟩⟩
  have hH2 : ∀ (j : Nat) b e, as[j]? = some b → ks[j]? = some e → H2 b = some (.tup (pVt e)) := fun j b e hj he => by
    obtain ⟨vs', ⟨j', e', j1, j2, ev⟩, hH⟩ := qt b (List.mem_of_getElem? hj)
    have : j = j' := (List.getElem?_inj (List.getElem?_eq_some_iff.mp hj).1 nd).mp (hj.trans j1.symm)
    subst this
    rw [he] at j2; cases j2
    rw [hH, ev]
  have lz : (as.map V.ref).length = (ks.map pDt).length := by rw [List.length_map, List.length_map]; exact lak
  have z1 := zip_fst lz
  have z2 := zip_snd lz
  have hoL : (h'.push (seqObj "list" (as.map Value.ref).toArray 0)).get? h'.objs.size = some (seqObj "list" (as.map Value.ref).toArray 0) := Heap.get?_push_size _ rfl
  show wpAny _ _ _ _ _ { s with heap := h'.push (seqObj "list" (as.map Value.ref).toArray 0), toks := tk }
  have rv : Vals (((as.map V.ref).zip (ks.map pDt)).map Prod.fst) (as.map Value.ref) := by rw [z1]; exact vals_refs as
  have e1 : PySem.W.EachIs (fun u (p : V × D) => RelV p.1 u) (as.map Value.ref) ((as.map V.ref).zip (ks.map pDt)) := each_of rv fun p _ u h => h
  have hmem : ∀ p ∈ (as.map V.ref).zip (ks.map pDt), ∃ b e, p = (V.ref b, pDt e) ∧ e ∈ ks ∧ H2 b = some (.tup (pVt e)) := fun p hp => by
    obtain ⟨j, hj⟩ := List.mem_iff_getElem?.mp hp
    obtain ⟨h1, h2⟩ := List.getElem?_zip_eq_some.mp hj
    rw [List.getElem?_map, Option.map_eq_some_iff] at h1 h2
    obtain ⟨b, h1, e1⟩ := h1
    obtain ⟨e, h2, e2⟩ := h2
    exact ⟨b, e, Prod.ext e1.symm e2.symm, List.mem_of_getElem? h2, hH2 j b e h1 h2⟩
  have e2 : PySem.W.EachIs (fun u (p : V × D) => ∃ as', Reads (h'.push (seqObj "list" (as.map Value.ref).toArray 0)) u p.2 as' ∧ h'.objs.size ∉ as') (as.map Value.ref) ((as.map V.ref).zip (ks.map pDt)) := each_of rv fun p hp u h => by
    obtain ⟨b, e, rfl, hm, hb⟩ := hmem p hp
    have hdp : Dp X.K H2 (.ref b) (pDt e) := fz_dp (Ex.refl _) _ _ (hk e hm).1 (fz_tVk (M := H2) (k := [e.1, e.2]) hb (by simp))
    obtain ⟨as', ra⟩ := Dp.reads I2 (pDt e) (.ref b) u hdp h
    have := reads_tD ra
    subst this
    exact ⟨[], PyProof.Rows.Reads.keeps (fun b o e => Heap.get?_push_of_some _ e) ra, by simp⟩
  refine PySem.W.list_sort_data (s := { s with heap := h'.push (seqObj "list" (as.map Value.ref).toArray 0), toks := tk }) hoL e1 e2 (by rw [z2]; exact hal) (by rw [z2]; exact hso) (by rw [List.length_zip, lz, Nat.min_self, List.length_map]; omega) (fun b hb => ?_) fun out ho eo => ?_
  · obtain ⟨c, e, rfl, hm, _⟩ := hmem b hb
    have := (hk e hm).2
    simp only [units_in1]
    omega
  obtain ⟨e', he'⟩ := PyProof.Rows.sortedHeap_at (vs := as.map Value.ref) (out := List.toArray out) hoL
  have hn0 : H2 h'.objs.size = none := I2.hok.fresh (Nat.le_refl _)
  have hnH : H h'.objs.size = none := I1.hok.fresh (Nat.le_refl _)
  refine ⟨.ref h'.objs.size, upd H2 h'.objs.size (.lst ((((as.map V.ref).zip (ks.map pDt)).mergeSort (PySem.W.dataLe false Prod.snd)).map Prod.fst)), I2.laid (t' := tk) (fun b u e => ?_) (Nat.le_refl _) ⟨?_, out, e', of_each eo, he'⟩, rfl, q _ _ as (fun b o e => ?_) hnH lak (fun j b e hj he => ?_) upd_same⟩
  · have hb : b < h'.objs.size := Heap.lt_size e
    rw [PyProof.Rows.sortedHeap_old (Nat.ne_of_lt hb) (by rw [size_push']; exact Nat.lt_succ_of_lt hb)]
    exact Heap.get?_push_of_some _ e
  · rw [List.length_map, List.length_mergeSort, List.length_zip, lz, Nat.min_self, List.length_map]; omega
  · have := gr b o e
    rw [upd_ne (ne_of_none this hn0)]
    exact this
  · have := hH2 j b e hj he
    rw [upd_ne (ne_of_none this hn0)]
    exact this
def tItK (to : TE) : TE := fun σ H Q => to σ H fun x H1 => rItemsK x [] H1 Q
theorem pe_itemsK {o : Expr} {to : TE} {apos cpos : Pos} (ho : PE X o to) (hbase : attributeBase o "items" X.env (eval o X.env) = eval o X.env := by rfl) (hline : (apos.endLine == cpos.line) = true := by rfl) : PE X (.Call (.Attribute o "items" apos) [] [] cpos) (tItK to) := by
  refine ⟨fun pins s σ H Q I h => ?_⟩
  refine wpAny_Call_method0_late hbase hline (thn (ho.run pins s σ H _ I h) fun v s1 ⟨x, H1, I1, r1, q1⟩ => ?_)
  obtain ⟨a, kvs, rfl, _, ha, _⟩ := id q1
  have r1' : v = Value.ref a := r1
  subst r1'
  obtain ⟨h1, h2, _⟩ := isD_at I1 (.inl ⟨kvs, ha⟩)
  exact ⟨"dict", "dict.items", F.plainAttrs_dict, F.slot_dict_items, F.type_dict_items, h1, h2, Calls.callWith_builtin rfl (PySem.evalArgs_none (mt_itemsK pins s1 σ H1 _ [] _ [] Q I1 r1 .nil q1))⟩
/-- sorted(d.items()) -/
def wSortIt (f : DE) : DE := fun e Q => f e fun r e1 => ∃ ks : List (Key × Key), dicAt e1 r = some (ks.map fun p => (kD p.1, kD p.2)) ∧ (∀ q ∈ ks, (pDt q).canLay0 = true ∧ (pDt q).depth ≤ 64) ∧ PySem.W.AllAlike (ks.map pDt) ∧ PySem.W.Sortable (ks.map pDt) ∧ Q (.ow (.list (sortD (ks.map pDt)))) e1
theorem kvs_of : ∀ {ks : List (Key × Key)} {kvs : List (Key × V)}, (ks.map fun p => kD p.1) = kvs.map (fun p => kD p.1) → kvs.map Prod.snd = ks.map (fun p => kV p.2) → kvs = ks.map fun q => (q.1, kV q.2)
  | [], [], _, _ => rfl
  | [], _ :: _, h, _ => by cases h
  | _ :: _, [], h, _ => by cases h
  | p :: ks, q :: kvs, h, h2 => by
    rw [List.map_cons, List.map_cons] at h h2
    injection h with h h'
    injection h2 with h2 h2'
    rw [List.map_cons, kvs_of h' h2']
    congr 1
    exact Prod.ext (kD_inj h).symm h2
theorem fe_sortIt {a : Expr} {f : DE} {x : Str} {p apos cpos pos : Pos} (hc : X.calm = true) (hu : X.A.units + 130 < cLine) (hg : Gl X x) (hm : X.mg x = none) (hv : bootBuiltins x = some (.builtin "sorted")) (ha : FE X a f)
    (hn : x ≠ "__name__" := by decide) (hdb : (x == ("__debug__" : Str)) = false := by decide)
    (hbase : attributeBase a "items" X.env (eval a X.env) = eval a X.env := by rfl) (hline : (apos.endLine == cpos.line) = true := by rfl)
    (hs2 : starEach [Expr.Call (.Attribute a "items" apos) [] [] cpos] X.env = (false, eval (Expr.Call (.Attribute a "items" apos) [] [] cpos) X.env) :: starEach [] X.env := by rfl) (hp2 : (backTo pos (starEach [] X.env)).any (·.1) = false := by rfl) :
    FE X (.Call (.Name x p) [.Call (.Attribute a "items" apos) [] [] cpos] [] pos) (wSortIt f) := by
  refine ⟨pe_imp (pe_callB (cr_sortIt2 hc hu) hg hm hv (pa_cons (pe_itemsK ha.pe hbase hline) pa_nil hs2) hn hdb hs2 hp2) ?_, fun e Q Q' h w => ha.mono _ _ _ (fun r e1 ⟨ks, h1, h2, h3, h4, w1⟩ => ⟨ks, h1, h2, h3, h4, h _ _ w1⟩) w⟩
  rintro σ H Q ⟨P, B, ios, e, T, h, w⟩
  refine ⟨P, B, ios, e, T, h, ha.mono _ _ _ (fun r e1 w1 x H1 h1 => ?_) w⟩
  obtain ⟨ks, hd, hk, hal, hso, w1⟩ := w1
  obtain ⟨M, h1⟩ := h1
  have vw := h1.view (v := x) (by simp) (dic_at hd)
  obtain ⟨a, rfl, ⟨kvs, rd, hkk, fv⟩ | ⟨kvs, rd, hkk, fv⟩⟩ := vw
  · rw [List.map_map] at hkk fv
    have e1 : kvs.map Prod.snd = ks.map fun p => kV p.2 := by
      have f2 : FzL X.K M ((ks.map Prod.snd).map kD) (kvs.map Prod.snd) := by rw [List.map_map]; exact fv
      rw [fzl_kD f2, List.map_map]; rfl
    have hkvs : kvs = ks.map fun q => (q.1, kV q.2) := kvs_of hkk e1
    subst hkvs
    refine ⟨a, _, rfl, rfl, rd, fun p hp => ?_⟩
    have h2 : RepM X.K P B M ios _ σ T (upd H1 p (L2.DX.itemsO p a)) := h1.popN.alloc hp
    have rd' : Rd (upd H1 p (L2.DX.itemsO p a)) a (.dK (ks.map fun q => (q.1, kV q.2))) := by
      rcases rd with rd | ⟨o, rd⟩
      · exact .inl (by rw [upd_ne (ne_of_none rd hp)]; exact rd)
      · exact .inr ⟨o, by rw [upd_ne (ne_of_none rd hp)]; exact rd⟩
    refine ⟨p, a, ks, rfl, upd_same, rd', hk, hal, hso, fun H' l bs ex hl hlen hbs hll => ?_⟩
    refine w1 (.ref l) H' ⟨addT M H', ?_⟩
    have r3 := h2.extend ex
    have r4 : RepM X.K P B (addT M H') ios _ σ T H' := ⟨r3.c.tups, r3.el, r3.loc, r3.io⟩
    have lz : (bs.map V.ref).length = (ks.map pDt).length := by rw [List.length_map, List.length_map]; exact hlen
    refine r4.push_ow ⟨_, hll, ?_⟩ (.inl ?_) (h2.c.ph.none hl) fun i k d' h hk => h2.c.ne_new hl h hk
    · refine fzl_pairs (ds := ks.map pDt) (zip_snd lz) fun p hp => ?_
      obtain ⟨j, hj⟩ := List.mem_iff_getElem?.mp hp
      obtain ⟨g1, g2⟩ := List.getElem?_zip_eq_some.mp hj
      rw [List.getElem?_map, Option.map_eq_some_iff] at g1 g2
      obtain ⟨b, g1, e1⟩ := g1
      obtain ⟨q, g2, e2⟩ := g2
      rw [← e1, ← e2]
      exact fz_tVk (k := [q.1, q.2]) (addT_tup (hbs j b q g1 g2)) (by simp)
    · rw [addT_ne fun vs z => by rw [hll] at z; cases z]
      exact h2.mh.none hl
  · have := congrArg List.head? hkk
    cases ks with
    | nil => cases this
    | cons q ks => exact absurd (Option.some.inj this) kD_none
end
end PL
set_option Elab.async false
set_option linter.all false
set_option autoImplicit false
set_option maxRecDepth 100000
set_option maxHeartbeats 4000000
/-! PLzo: leaves that let, and the going by them, in plain Lean. -/
namespace PL
open PySem PySem.Spec PyProof.Rows L2
def letsB (ov : List Str) (tot day : Int) (l : Lv) : Bool := decide (l.part ∈ ov) && (decide (l.fst ≤ day) && decide (day ≤ l.lst)) && decide (tot ≤ l.most)
def stepsF (sides ov : List Str) (tot day : Int) (ls : List Lv) : List Lv := (ls.filter fun l => decide (l.giver ∉ sides) && decide (l.taker ∉ sides)).filter (letsB ov tot day)
/-- what is found, and who waits -/
structure Fw where
  (found : List (Str × List Int)) (wait : List Str)
def rowAt (f : List (Str × List Int)) (z : Str) : Option (List Int) := (f.find? fun p => p.1 == z).map Prod.snd
def one (here : Str) (s : Fw) (l : Lv) : Fw := if l.giver = here ∧ l.taker ∉ s.found.map Prod.fst then ⟨s.found ++ [(l.taker, (rowAt s.found here).getD [] ++ [l.num])], s.wait ++ [l.taker]⟩ else s
def turn (steps : List Lv) (s : Fw) : Fw := match s.wait with
  | [] => s
  | h :: w => steps.foldl (one h) ⟨s.found, w⟩
def turns (steps : List Lv) : Nat → Fw → Fw
  | 0, s => s
  | n + 1, s => turns steps n (turn steps s)
theorem turns_succ (steps : List Lv) : ∀ (n : Nat) (s : Fw), turns steps (n + 1) s = turn steps (turns steps n s)
  | 0, _ => rfl
  | n + 1, s => turns_succ steps n (turn steps s)
/-- how many takers are not found yet -/
def left (steps : List Lv) (f : List (Str × List Int)) : Nat := (steps.filter fun l => decide (l.taker ∉ f.map Prod.fst)).length
theorem left_add {steps : List Lv} {f : List (Str × List Int)} {z : Str} {r : List Int} {l : Lv} (hl : l ∈ steps) (hz : l.taker = z) (hn : z ∉ f.map Prod.fst) : left steps (f ++ [(z, r)]) + 1 ≤ left steps f := by
  unfold left
  induction steps with
  | nil => cases hl
  | cons x xs ih =>
    have mono : ∀ ys : List Lv, (ys.filter fun l => decide (l.taker ∉ (f ++ [(z, r)]).map Prod.fst)).length ≤ (ys.filter fun l => decide (l.taker ∉ f.map Prod.fst)).length := fun ys => by
      induction ys with
      | nil => exact Nat.le_refl _
      | cons y ys ih =>
        by_cases h1 : y.taker ∉ f.map Prod.fst
        · rw [List.filter_cons_of_pos (p := fun l : Lv => decide (l.taker ∉ f.map Prod.fst)) (by simpa using h1)]
          by_cases h2 : y.taker ∉ (f ++ [(z, r)]).map Prod.fst
          · rw [List.filter_cons_of_pos (by simpa using h2)]; simp only [List.length_cons]; omega
          · rw [List.filter_cons_of_neg (by simpa using h2)]; simp only [List.length_cons]; omega
        · have h2 : ¬ (y.taker ∉ (f ++ [(z, r)]).map Prod.fst) := fun h => h1 fun q => h (by rw [List.map_append]; exact List.mem_append_left _ q)
          rw [List.filter_cons_of_neg (p := fun l : Lv => decide (l.taker ∉ f.map Prod.fst)) (by simpa using h1), List.filter_cons_of_neg (by simpa using h2)]; exact ih
    rcases List.mem_cons.mp hl with rfl | hl
    · have h1 : l.taker ∉ f.map Prod.fst := by rw [hz]; exact hn
      have h2 : ¬ (l.taker ∉ (f ++ [(z, r)]).map Prod.fst) := fun h => h (by rw [List.map_append, hz]; simp)
      rw [List.filter_cons_of_pos (p := fun l : Lv => decide (l.taker ∉ f.map Prod.fst)) (by simpa using h1), List.filter_cons_of_neg (by simpa using h2)]
      have := mono xs
      simp only [List.length_cons]; omega
    · have := ih hl
      by_cases h1 : x.taker ∉ f.map Prod.fst
      · rw [List.filter_cons_of_pos (p := fun l : Lv => decide (l.taker ∉ f.map Prod.fst)) (by simpa using h1)]
        by_cases h2 : x.taker ∉ (f ++ [(z, r)]).map Prod.fst
        · rw [List.filter_cons_of_pos (by simpa using h2)]; simp only [List.length_cons]; omega
        · rw [List.filter_cons_of_neg (by simpa using h2)]; simp only [List.length_cons]; omega
      · have h2 : ¬ (x.taker ∉ (f ++ [(z, r)]).map Prod.fst) := fun h => h1 fun q => h (by rw [List.map_append]; exact List.mem_append_left _ q)
        rw [List.filter_cons_of_neg (p := fun l : Lv => decide (l.taker ∉ f.map Prod.fst)) (by simpa using h1), List.filter_cons_of_neg (by simpa using h2)]; exact this
def mea (steps : List Lv) (s : Fw) : Nat := s.wait.length + 2 * left steps s.found
theorem mea_one {steps : List Lv} {here : Str} {l : Lv} (hl : l ∈ steps) (s : Fw) : mea steps (one here s l) ≤ mea steps s := by
  unfold one mea
  split
  · rename_i h
    have := left_add (r := (rowAt s.found here).getD [] ++ [l.num]) hl rfl h.2
    simp only [List.length_append, List.length_singleton]
    omega
  · exact Nat.le_refl _
theorem mea_fold {steps : List Lv} {here : Str} : ∀ (ls : List Lv) (s : Fw), (∀ l ∈ ls, l ∈ steps) → mea steps (ls.foldl (one here) s) ≤ mea steps s
  | [], s, _ => Nat.le_refl _
  | l :: ls, s, h => Nat.le_trans (mea_fold ls _ fun q hq => h q (List.mem_cons_of_mem _ hq)) (mea_one (h l (by simp)) s)
theorem mea_turn {steps : List Lv} {s : Fw} {h : Str} {w : List Str} (e : s.wait = h :: w) : mea steps (turn steps s) < mea steps s := by
  unfold turn
  rw [e]
  have := mea_fold (steps := steps) (here := h) steps ⟨s.found, w⟩ fun _ h => h
  have h2 : mea steps ⟨s.found, w⟩ + 1 = mea steps s := by unfold mea; rw [e]; simp only [List.length_cons]; omega
  show mea steps (steps.foldl (one h) ⟨s.found, w⟩) < _
  omega
/-- what holds of a state along the way -/
structure WF (z0 : Str) (steps : List Lv) (s : Fw) : Prop where
  t : ∀ y ∈ s.found.map Prod.fst, y = z0 ∨ ∃ l ∈ steps, l.taker = y
  a : ∀ h ∈ s.wait, h ∈ s.found.map Prod.fst
  b : ∀ p ∈ s.found, p.2.length + 1 ≤ s.found.length
  c : s.found.length + left steps s.found ≤ 1 + steps.length
  d : mea steps s ≤ 1 + 2 * steps.length
theorem rowAt_mem {f : List (Str × List Int)} {z : Str} (h : z ∈ f.map Prod.fst) : ∃ r, rowAt f z = some r ∧ (z, r) ∈ f := by
  unfold rowAt
  induction f with
  | nil => cases h
  | cons p f ih =>
    rw [List.find?_cons]
    by_cases e : p.1 = z
    · have : (p.1 == z) = true := by simpa using e
      rw [this]
      exact ⟨p.2, rfl, by rw [← e]; simp⟩
    · have h1 : (p.1 == z) = false := by simpa using e
      rw [h1]
      rcases List.mem_cons.mp h with h | h
      · exact absurd h.symm e
      · obtain ⟨r, h1, h2⟩ := ih h
        exact ⟨r, h1, List.mem_cons_of_mem _ h2⟩
theorem one_keys {here z : Str} {s : Fw} {l : Lv} (h : z ∈ s.found.map Prod.fst) : z ∈ (one here s l).found.map Prod.fst := by
  unfold one
  split
  · rw [List.map_append]; exact List.mem_append_left _ h
  · exact h
theorem fold_keys {here z : Str} : ∀ (ls : List Lv) {s : Fw}, z ∈ s.found.map Prod.fst → z ∈ (ls.foldl (one here) s).found.map Prod.fst
  | [], _, h => h
  | l :: ls, _, h => fold_keys ls (one_keys h)
theorem WF.one {z0 : Str} {steps : List Lv} {here : Str} {s : Fw} {l : Lv} (w : WF z0 steps s) (hh : here ∈ s.found.map Prod.fst) (hl : l ∈ steps) : WF z0 steps (one here s l) := by
  by_cases h : l.giver = here ∧ l.taker ∉ s.found.map Prod.fst
  · have e : PL.one here s l = ⟨s.found ++ [(l.taker, (rowAt s.found here).getD [] ++ [l.num])], s.wait ++ [l.taker]⟩ := if_pos h
    have hm := mea_one (here := here) hl s
    rw [e] at hm ⊢
    obtain ⟨r, h1, h2⟩ := rowAt_mem hh
    have h3 : r.length + 1 ≤ s.found.length := w.b _ h2
    refine ⟨fun y hy => ?_, fun z hz => ?_, fun p hp => ?_, ?_, Nat.le_trans hm w.d⟩
    · rw [List.map_append] at hy
      rcases List.mem_append.mp hy with hy | hy
      · exact w.t y hy
      · right; exact ⟨l, hl, (List.mem_singleton.mp hy).symm⟩
    · rw [List.map_append]
      rcases List.mem_append.mp hz with hz | hz
      · exact List.mem_append_left _ (w.a z hz)
      · exact List.mem_append_right _ (by simpa using hz)
    · simp only [List.length_append, List.length_singleton]
      rcases List.mem_append.mp hp with hp | hp
      · have := w.b p hp; omega
      · rw [List.mem_singleton.mp hp, h1]
        simp only [Option.getD_some, List.length_append, List.length_singleton]
        omega
    · have := left_add (r := (rowAt s.found here).getD [] ++ [l.num]) hl rfl h.2
      have := w.c
      simp only [List.length_append, List.length_singleton]
      omega
  · have e : PL.one here s l = s := if_neg h
    rw [e]; exact w
theorem WF.fold {z0 : Str} {steps : List Lv} {here : Str} : ∀ (ls : List Lv) {s : Fw}, (∀ l ∈ ls, l ∈ steps) → WF z0 steps s → here ∈ s.found.map Prod.fst → WF z0 steps (ls.foldl (PL.one here) s)
  | [], _, _, w, _ => w
  | l :: ls, _, h, w, hh => WF.fold ls (fun q hq => h q (List.mem_cons_of_mem _ hq)) (w.one hh (h l (by simp))) (one_keys hh)
theorem WF.pop {z0 : Str} {steps : List Lv} {s : Fw} {h : Str} {t : List Str} (w : WF z0 steps s) (e : s.wait = h :: t) : WF z0 steps ⟨s.found, t⟩ ∧ h ∈ s.found.map Prod.fst := by
  refine ⟨⟨w.t, fun z hz => w.a z (by rw [e]; exact List.mem_cons_of_mem _ hz), w.b, w.c, ?_⟩, w.a h (by rw [e]; simp)⟩
  have := w.d
  unfold mea at this ⊢
  rw [e] at this
  simp only [List.length_cons] at this ⊢
  omega
theorem WF.start {steps : List Lv} {z : Str} : WF z steps ⟨[(z, [])], [z]⟩ := by
  have hl : left steps [(z, [])] ≤ steps.length := List.length_filter_le ..
  refine ⟨fun y hy => .inl (by simpa using hy), fun h hh => by simpa using hh, fun p hp => ?_, by simp only [List.length_singleton]; omega, ?_⟩
  · rw [List.mem_singleton.mp hp]; simp
  · unfold mea; simp only [List.length_singleton]; omega
abbrev fD (f : List (Str × List Int)) : List (D × D) := f.map fun p => (PyData.str p.1, PyData.list (p.2.map .int))
theorem fD_look (f : List (Str × List Int)) (z : Str) : lookD (fD f) (.str z) = (rowAt f z).map fun r => PyData.list (r.map .int) := by
  unfold rowAt
  rw [lookD_map (fun p : Str × List Int => p.1) (fun p => PyData.list (p.2.map .int)), Option.map_map]
  rfl
theorem rowAt_none {f : List (Str × List Int)} {z : Str} (h : z ∉ f.map Prod.fst) : rowAt f z = none := by
  unfold rowAt
  rw [Option.map_eq_none_iff, List.find?_eq_none]
  intro p hp
  simp only [beq_iff_eq]
  rintro rfl
  exact h (List.mem_map.mpr ⟨p, hp, rfl⟩)
theorem fD_put {f : List (Str × List Int)} {z : Str} {r : List Int} (h : z ∉ f.map Prod.fst) : putD (fD f) (.str z) (.list (r.map .int)) = fD (f ++ [(z, r)]) := by
  rw [putD_new (fun p : Str × List Int => p.1) (fun p => PyData.list (p.2.map .int)) z _ f (fun p hp e => h (by rw [← e]; exact List.mem_map.mpr ⟨p, hp, rfl⟩))]
  rw [fD, List.map_append]; rfl
theorem fD_ok (f : List (Str × List Int)) (z : Str) : keyOk (fD f) (.str z) = true := keyOk_map (fun p : Str × List Int => p.1) (fun p => PyData.list (p.2.map .int)) z f
end PL
set_option Elab.async false
set_option linter.all false
set_option autoImplicit false
set_option maxRecDepth 100000
set_option maxHeartbeats 4000000
/-! PLzp: rows where leaves lie between two people alone. -/
namespace PL
open PySem PySem.Spec PyProof.Rows L2
def Btw (H S : Str) (steps : List Lv) : Prop := ∀ l ∈ steps, (l.giver = H ∧ l.taker = S) ∨ (l.giver = S ∧ l.taker = H)
theorem fold_none {here : Str} : ∀ (ls : List Lv) (s : Fw), (∀ l ∈ ls, l.giver = here → l.taker ∈ s.found.map Prod.fst) → ls.foldl (one here) s = s
  | [], _, _ => rfl
  | l :: ls, s, h => by
    have e : one here s l = s := if_neg fun q => q.2 (h l (by simp) q.1)
    rw [List.foldl_cons, e]
    exact fold_none ls s fun q hq => h q (List.mem_cons_of_mem _ hq)
theorem fold_first {H S : Str} (hne : H ≠ S) : ∀ (ls : List Lv), Btw H S ls → ls.foldl (one H) ⟨[(H, [])], []⟩ = match ls.filter (fun l => decide (l.giver = H)) with
    | [] => ⟨[(H, [])], []⟩
    | l :: _ => ⟨[(H, []), (S, [l.num])], [S]⟩
  | [], _ => rfl
  | l :: ls, h => by
    by_cases hg : l.giver = H
    · have ht : l.taker = S := by
        rcases h l (by simp) with q | q
        · exact q.2
        · exact absurd (hg.symm.trans q.1) hne
      rw [List.filter_cons_of_pos (by simpa using hg), List.foldl_cons]
      have e : one H ⟨[(H, [])], []⟩ l = ⟨[(H, []), (S, [l.num])], [S]⟩ := by
        unfold one
        rw [if_pos ⟨hg, by rw [ht]; simpa using Ne.symm hne⟩, ht]
        simp [rowAt]
      rw [e]
      exact fold_none ls _ fun q hq hq2 => by
        rcases h q (List.mem_cons_of_mem _ hq) with z | z
        · rw [z.2]; simp
        · rw [z.2]; simp
    · rw [List.filter_cons_of_neg (by simpa using hg), List.foldl_cons]
      have e : one H ⟨[(H, [])], []⟩ l = ⟨[(H, [])], []⟩ := if_neg fun q => hg q.1
      rw [e]
      exact fold_first hne ls fun q hq => h q (List.mem_cons_of_mem _ hq)
/-- the end of the going -/
def endF (H S : Str) (steps : List Lv) : List (Str × List Int) := match steps.filter (fun l => decide (l.giver = H)) with
  | [] => [(H, [])]
  | l :: _ => [(H, []), (S, [l.num])]
theorem turns_nil {steps : List Lv} {s : Fw} (h : s.wait = []) : ∀ n, turns steps n s = s
  | 0 => rfl
  | n + 1 => by
    have e : turn steps s = s := by unfold turn; rw [h]
    show turns steps n (turn steps s) = s
    rw [e]; exact turns_nil h n
theorem two_rows {H S : Str} {steps : List Lv} (hne : H ≠ S) (hb : Btw H S steps) {n : Nat} (hw : (turns steps n ⟨[(H, [])], [H]⟩).wait = []) : (turns steps n ⟨[(H, [])], [H]⟩).found = endF H S steps := by
  match n, hw with
  | 0, hw => cases hw
  | n + 1, hw =>
    have e1 : turn steps ⟨[(H, [])], [H]⟩ = steps.foldl (one H) ⟨[(H, [])], []⟩ := rfl
    have e2 := fold_first hne steps hb
    have hw : (turns steps n (turn steps ⟨[(H, [])], [H]⟩)).wait = [] := hw
    show (turns steps n (turn steps ⟨[(H, [])], [H]⟩)).found = _
    rw [e1, e2] at hw ⊢
    unfold endF
    generalize steps.filter (fun l => decide (l.giver = H)) = fs at hw ⊢
    cases fs with
    | nil => rw [turns_nil rfl]
    | cons l fs =>
      match n, hw with
      | 0, hw => cases hw
      | n + 1, hw =>
        have e3 : turn steps ⟨[(H, []), (S, [l.num])], [S]⟩ = ⟨[(H, []), (S, [l.num])], []⟩ := by
          show steps.foldl (one S) ⟨[(H, []), (S, [l.num])], []⟩ = _
          exact fold_none steps _ fun q hq hq2 => by
            rcases hb q hq with z | z
            · rw [z.2]; simp
            · rw [z.2]; simp
        show (turns steps n (turn steps ⟨[(H, []), (S, [l.num])], [S]⟩)).found = _
        rw [e3, turns_nil rfl]
theorem endF_self (H S : Str) (steps : List Lv) : rowAt (endF H S steps) H = some [] := by
  unfold endF
  split <;> simp [rowAt]
theorem endF_other {H S : Str} (hne : H ≠ S) (steps : List Lv) : rowAt (endF H S steps) S = (steps.filter fun l => decide (l.giver = H)).head?.map fun l => [l.num] := by
  unfold endF
  cases steps.filter fun l => decide (l.giver = H) with
  | nil => simp [rowAt, hne]
  | cons l ls => simp [rowAt, hne]
end PL
set_option Elab.async false
set_option linter.all false
set_option autoImplicit false
set_option maxRecDepth 100000
set_option maxHeartbeats 4000000
/-! PLzq: len of a dict, too. -/
namespace PL
open PySem PySem.Spec PyProof.Rows L2
section
variable {X : Cx}
theorem call_lenRd : CallR X (.builtin "len") (fun xs H Q => ∃ a kvs, xs = [V.ref a] ∧ Rd H a (.dK kvs) ∧ Q (.int kvs.length) H) := by
  intro pins s σ H xs us Q I r h
  obtain ⟨a, kvs, rfl, ha, q⟩ := h
  obtain ⟨u, rfl, ru⟩ := vals1 r
  cases ru
  exact d_len I ha fun t s' I' => ⟨.int kvs.length, H, I', ⟨t, rfl⟩, q⟩
def rLenA (K : PySem.W.Frag) : List V → Hp → VK → Prop := fun xs H Q => (fun xs H Q => ∃ x n, xs = [x] ∧ LenV K x H n ∧ Q (V.int n) H) xs H Q ∨ (fun xs H Q => ∃ a kvs, xs = [V.ref a] ∧ Rd H a (.dK kvs) ∧ Q (V.int kvs.length) H) xs H Q
theorem call_lenA : CallR X (.builtin "len") (rLenA X.K) := call_len.or call_lenRd
end
def gLenA : D → (Out → Prop) → Prop
  | .dict kds, Q => isTd kds = false ∧ Q (.val (.int kds.length))
  | d, Q => gLen d Q
theorem g_lenA {K : PySem.W.Frag} : OpN K (rLenA K) (g1 gLenA) where
  run := fun M H ds vs Q ex v w => by
    match ds, w with
    | [d], w =>
      cases d with
      | dict kds =>
        obtain ⟨hT, w⟩ := w
        obtain ⟨x, rfl, vx⟩ := vwl1 v
        obtain ⟨a, rfl, ⟨kvs, rd, hk, f⟩ | ⟨kvs, rd, hk, f⟩⟩ := vx
        · refine .inr ⟨a, kvs, rfl, rd, ?_⟩
          have hl : kds.length = kvs.length := by
            have := congrArg List.length hk
            simpa using this
          rw [← hl]
          exact w _ (fzi.mpr rfl)
        · rw [(td_of hk).1] at hT; cases hT
      | none => exact .inl (g_len.run M H [PyData.none] vs Q ex v w)
      | bool b => exact .inl (g_len.run M H [PyData.bool b] vs Q ex v w)
      | int b => exact .inl (g_len.run M H [PyData.int b] vs Q ex v w)
      | str b => exact .inl (g_len.run M H [PyData.str b] vs Q ex v w)
      | list b => exact .inl (g_len.run M H [PyData.list b] vs Q ex v w)
      | tuple b => exact .inl (g_len.run M H [PyData.tuple b] vs Q ex v w)
  mono := fun ds Q Q' h w => by
    match ds, w with
    | [d], w =>
      cases d with
      | dict kds => exact ⟨w.1, h _ w.2⟩
      | none => exact g_len.mono (K := K) [PyData.none] Q Q' h w
      | bool b => exact g_len.mono (K := K) [PyData.bool b] Q Q' h w
      | int b => exact g_len.mono (K := K) [PyData.int b] Q Q' h w
      | str b => exact g_len.mono (K := K) [PyData.str b] Q Q' h w
      | list b => exact g_len.mono (K := K) [PyData.list b] Q Q' h w
      | tuple b => exact g_len.mono (K := K) [PyData.tuple b] Q Q' h w
theorem gLenA_l {ds : List D} {Q : Out → Prop} : gLenA (.list ds) Q = Q (.val (.int ds.length)) := rfl
theorem gLenA_t {ds : List D} {Q : Out → Prop} : gLenA (.tuple ds) Q = Q (.val (.int ds.length)) := rfl
theorem gLenA_s {z : Str} {Q : Out → Prop} : gLenA (.str z) Q = (z.length ≤ 100000 ∧ Q (.val (.int z.length))) := rfl
theorem gLenA_d {kds : List (D × D)} {Q : Out → Prop} : gLenA (.dict kds) Q = (isTd kds = false ∧ Q (.val (.int kds.length))) := rfl
end PL
set_option Elab.async false
set_option linter.all false
set_option autoImplicit false
set_option maxRecDepth 100000
set_option maxHeartbeats 4000000
/-! PLzr: the going by leaves finds the shortest and first ways, in plain Lean. -/
namespace PL
open PySem PySem.Spec PyProof.Rows L2
/-- a way by steps: its numbers -/
inductive Way (steps : List Lv) (z0 : Str) : Str → List Int → Prop
  | nil : Way steps z0 z0 []
  | snoc {r : List Int} {l : Lv} : Way steps z0 l.giver r → l ∈ steps → Way steps z0 l.taker (r ++ [l.num])
/-- lists as they stand -/
def lexB : List Int → List Int → Bool
  | [], [] => false
  | [], _ :: _ => true
  | _ :: _, [] => false
  | a :: as, b :: bs => decide (a < b) || (decide (a = b) && lexB as bs)
def rlt (r s : List Int) : Prop := r.length < s.length ∨ (r.length = s.length ∧ lexB r s = true)
def rle (r s : List Int) : Prop := r = s ∨ rlt r s
theorem lexB_irr : ∀ r, lexB r r = false
  | [] => rfl
  | a :: r => by simp [lexB, lexB_irr r]
theorem lexB_tr : ∀ {a b c : List Int}, lexB a b = true → lexB b c = true → lexB a c = true
  | [], [], _, h, _ => by simp [lexB] at h
  | [], _ :: _, [], _, h => by simp [lexB] at h
  | [], _ :: _, _ :: _, _, _ => rfl
  | _ :: _, [], _, h, _ => by simp [lexB] at h
  | _ :: _, _ :: _, [], _, h => by simp [lexB] at h
  | a :: as, b :: bs, c :: cs, h, g => by
    simp only [lexB, Bool.or_eq_true, decide_eq_true_eq, Bool.and_eq_true] at h g ⊢
    rcases h with h | ⟨rfl, h⟩
    · rcases g with g | ⟨rfl, g⟩
      · exact .inl (by omega)
      · exact .inl h
    · rcases g with g | ⟨rfl, g⟩
      · exact .inl g
      · exact .inr ⟨rfl, lexB_tr h g⟩
theorem lexB_tot : ∀ (a b : List Int), a.length = b.length → lexB a b = true ∨ a = b ∨ lexB b a = true
  | [], [], _ => .inr (.inl rfl)
  | [], _ :: _, h => by simp at h
  | _ :: _, [], h => by simp at h
  | a :: as, b :: bs, h => by
    have h2 : as.length = bs.length := by simpa using h
    clear h
    simp only [lexB, Bool.or_eq_true, decide_eq_true_eq, Bool.and_eq_true]
    rcases Int.lt_trichotomy a b with q | rfl | q
    · exact .inl (.inl q)
    · rcases lexB_tot as bs h2 with q | rfl | q
      · exact .inl (.inr ⟨rfl, q⟩)
      · exact .inr (.inl rfl)
      · exact .inr (.inr (.inr ⟨rfl, q⟩))
    · exact .inr (.inr (.inl q))
theorem lexB_app : ∀ {a b : List Int} (x y : List Int), a.length = b.length → lexB a b = true → lexB (a ++ x) (b ++ y) = true
  | [], [], _, _, _, h => by simp [lexB] at h
  | [], _ :: _, _, _, h, _ => by simp at h
  | _ :: _, [], _, _, h, _ => by simp at h
  | a :: as, b :: bs, x, y, hl, h => by
    have hl2 : as.length = bs.length := by simpa using hl
    clear hl
    simp only [List.cons_append, lexB, Bool.or_eq_true, decide_eq_true_eq, Bool.and_eq_true] at h ⊢
    rcases h with h | ⟨rfl, h⟩
    · exact .inl h
    · exact .inr ⟨rfl, lexB_app x y hl2 h⟩
theorem lexB_same : ∀ (a x y : List Int), lexB (a ++ x) (a ++ y) = lexB x y
  | [], _, _ => rfl
  | a :: as, x, y => by simp [lexB, lexB_same as x y]
theorem rlt_irr (r : List Int) : ¬ rlt r r := fun h => by
  rcases h with h | h
  · omega
  · rw [lexB_irr] at h; exact absurd h.2 (by simp)
theorem rlt.trans {a b c : List Int} (h : rlt a b) (g : rlt b c) : rlt a c := by
  rcases h with h | h <;> rcases g with g | g
  · exact .inl (by omega)
  · exact .inl (by omega)
  · exact .inl (by omega)
  · exact .inr ⟨by omega, lexB_tr h.2 g.2⟩
theorem rlt_tot (a b : List Int) : rlt a b ∨ a = b ∨ rlt b a := by
  rcases Nat.lt_trichotomy a.length b.length with h | h | h
  · exact .inl (.inl h)
  · rcases lexB_tot a b h with q | q | q
    · exact .inl (.inr ⟨h, q⟩)
    · exact .inr (.inl q)
    · exact .inr (.inr (.inr ⟨h.symm, q⟩))
  · exact .inr (.inr (.inl h))
theorem rlt_snoc {r s : List Int} (n m : Int) (h : rlt r s) : rlt (r ++ [n]) (s ++ [m]) := by
  rcases h with h | h
  · exact .inl (by simp only [List.length_append, List.length_singleton]; omega)
  · exact .inr ⟨by simp only [List.length_append, List.length_singleton]; omega, lexB_app _ _ h.1 h.2⟩
theorem rlt_num {r : List Int} {n m : Int} (h : n < m) : rlt (r ++ [n]) (r ++ [m]) := .inr ⟨by simp, by rw [lexB_same]; simp [lexB, h]⟩
theorem rlt_nil {r : List Int} {n : Int} : rlt [] (r ++ [n]) := .inl (by simp)
theorem rle.refl (r : List Int) : rle r r := .inl rfl
theorem rle.trans {a b c : List Int} (h : rle a b) (g : rle b c) : rle a c := by
  rcases h with rfl | h
  · exact g
  · rcases g with rfl | g
    · exact .inr h
    · exact .inr (h.trans g)
theorem rle_snoc {r s : List Int} {n : Int} (h : rle r s) : rle (r ++ [n]) (s ++ [n]) := by
  rcases h with rfl | h
  · exact .refl _
  · exact .inr (rlt_snoc _ _ h)
theorem rle.anti {a b : List Int} (h : rle a b) (g : rle b a) : a = b := by
  rcases h with h | h
  · exact h
  · rcases g with g | g
    · exact g.symm
    · exact absurd (h.trans g) (rlt_irr _)
theorem rle.len {a b : List Int} (h : rle a b) : a.length ≤ b.length := by
  rcases h with rfl | h | h
  · exact Nat.le_refl _
  · omega
  · omega
theorem rle_or (a b : List Int) : rle a b ∨ rlt b a := by
  rcases rlt_tot a b with h | h | h
  · exact .inl (.inr h)
  · exact .inl (.inl h)
  · exact .inr h
def Best (steps : List Lv) (z0 z : Str) (r : List Int) : Prop := Way steps z0 z r ∧ ∀ r', Way steps z0 z r' → rle r r'
theorem Best.uni {steps : List Lv} {z0 z : Str} {r s : List Int} (h : Best steps z0 z r) (g : Best steps z0 z s) : r = s := (h.2 _ g.1).anti (g.2 _ h.1)
theorem rowAt_of {f : List (Str × List Int)} {z : Str} {r : List Int} (hn : (f.map Prod.fst).Nodup) (h : (z, r) ∈ f) : rowAt f z = some r := by
  unfold rowAt
  induction f with
  | nil => cases h
  | cons p f ih =>
    rw [List.map_cons, List.nodup_cons] at hn
    rw [List.find?_cons]
    rcases List.mem_cons.mp h with rfl | h
    · simp
    · have : (p.1 == z) = false := by
        simp only [beq_eq_false_iff_ne]
        rintro rfl
        exact hn.1 (List.mem_map.mpr ⟨_, h, rfl⟩)
      rw [this]
      exact ih hn.2 h
/-- what holds between the turns -/
structure Bf (steps : List Lv) (z0 : Str) (done wq : List (Str × List Int)) (s : Fw) : Prop where
  found : s.found = done ++ wq
  wait : s.wait = wq.map Prod.fst
  nd : (s.found.map Prod.fst).Nodup
  way : ∀ p ∈ s.found, Way steps z0 p.1 p.2
  sorted : s.found.Pairwise fun a b => rlt a.2 b.2
  frm : ∀ p ∈ s.found, p.2 = [] ∨ ∃ q ∈ done, ∃ n, p.2 = q.2 ++ [n]
  clo : ∀ q ∈ done, ∀ l ∈ steps, l.giver = q.1 → ∃ r, (l.taker, r) ∈ s.found ∧ rle r (q.2 ++ [l.num])
  z0 : (z0, []) ∈ s.found
theorem Bf.start {steps : List Lv} {z0 : Str} : Bf steps z0 [] [(z0, [])] ⟨[(z0, [])], [z0]⟩ :=
  ⟨rfl, rfl, (by simp), (fun p hp => by rw [List.mem_singleton.mp hp]; exact .nil), (by simp), (fun p hp => by rw [List.mem_singleton.mp hp]; exact .inl rfl), (fun q hq => by cases hq), (by simp)⟩
/-- what holds within a turn -/
structure Bg (steps pre : List Lv) (z0 y : Str) (ry : List Int) (done wq : List (Str × List Int)) (s : Fw) : Prop where
  found : s.found = done ++ (y, ry) :: wq
  wait : s.wait = wq.map Prod.fst
  nd : (s.found.map Prod.fst).Nodup
  way : ∀ p ∈ s.found, Way steps z0 p.1 p.2
  sorted : s.found.Pairwise fun a b => rlt a.2 b.2
  frm : ∀ p ∈ s.found, p.2 = [] ∨ (∃ q ∈ done, ∃ n, p.2 = q.2 ++ [n]) ∨ ∃ l ∈ pre, p.2 = ry ++ [l.num]
  clo : ∀ q ∈ done, ∀ l ∈ steps, l.giver = q.1 → ∃ r, (l.taker, r) ∈ s.found ∧ rle r (q.2 ++ [l.num])
  cloh : ∀ l ∈ pre, l.giver = y → ∃ r, (l.taker, r) ∈ s.found ∧ rle r (ry ++ [l.num])
  z0 : (z0, []) ∈ s.found
theorem Bg.lt {steps pre : List Lv} {z0 y : Str} {ry : List Int} {done wq : List (Str × List Int)} {s : Fw} (g : Bg steps pre z0 y ry done wq s) {m : Int} (hp : ∀ l ∈ pre, l.num < m) : ∀ p ∈ s.found, rlt p.2 (ry ++ [m]) := fun p hpm => by
  rcases g.frm p hpm with h | ⟨q, hq, n, h⟩ | ⟨l, hl, h⟩
  · rw [h]; exact rlt_nil
  · rw [h]
    have hs := g.sorted
    rw [g.found, List.pairwise_append] at hs
    exact rlt_snoc _ _ (hs.2.2 q hq (y, ry) (by simp))
  · rw [h]; exact rlt_num (hp l hl)
theorem Bg.step {steps pre : List Lv} {l : Lv} {z0 y : Str} {ry : List Int} {done wq : List (Str × List Int)} {s : Fw} (g : Bg steps pre z0 y ry done wq s) (hl : l ∈ steps) (hp : ∀ q ∈ pre, q.num < l.num) : ∃ wq', Bg steps (pre ++ [l]) z0 y ry done wq' (one y s l) := by
  have hlt := g.lt hp
  have hy : (y, ry) ∈ s.found := by rw [g.found]; simp
  by_cases h : l.giver = y ∧ l.taker ∉ s.found.map Prod.fst
  · have hr : rowAt s.found y = some ry := rowAt_of g.nd hy
    have e : one y s l = ⟨s.found ++ [(l.taker, ry ++ [l.num])], s.wait ++ [l.taker]⟩ := by
      unfold one; rw [if_pos h, hr]; rfl
    rw [e]
    refine ⟨wq ++ [(l.taker, ry ++ [l.num])], ?_, ?_, ?_, ?_, ?_, ?_, ?_, ?_, ?_⟩
    · show s.found ++ _ = _; rw [g.found]; simp
    · show s.wait ++ _ = _; rw [g.wait]; simp
    · show ((s.found ++ _).map Prod.fst).Nodup
      rw [List.map_append, List.nodup_append]
      refine ⟨g.nd, by simp, fun a ha b hb => ?_⟩
      rw [List.map_singleton, List.mem_singleton] at hb
      rintro rfl
      rw [hb] at ha
      exact h.2 ha
    · intro p hpm
      rcases List.mem_append.mp hpm with q | q
      · exact g.way p q
      · rw [List.mem_singleton.mp q]
        have := g.way _ hy
        rw [← h.1] at this
        exact .snoc this hl
    · show (s.found ++ _).Pairwise _
      rw [List.pairwise_append]
      exact ⟨g.sorted, by simp, fun a ha b hb => by rw [List.mem_singleton.mp hb]; exact hlt a ha⟩
    · intro p hpm
      rcases List.mem_append.mp hpm with q | q
      · rcases g.frm p q with z | z | ⟨k, hk, z⟩
        · exact .inl z
        · exact .inr (.inl z)
        · exact .inr (.inr ⟨k, List.mem_append_left _ hk, z⟩)
      · rw [List.mem_singleton.mp q]
        exact .inr (.inr ⟨l, by simp, rfl⟩)
    · intro q hq k hk e
      obtain ⟨r, h1, h2⟩ := g.clo q hq k hk e
      exact ⟨r, List.mem_append_left _ h1, h2⟩
    · intro k hk e
      rcases List.mem_append.mp hk with hk | hk
      · obtain ⟨r, h1, h2⟩ := g.cloh k hk e
        exact ⟨r, List.mem_append_left _ h1, h2⟩
      · rw [List.mem_singleton.mp hk]
        exact ⟨_, List.mem_append_right _ (by simp), .refl _⟩
    · exact List.mem_append_left _ g.z0
  · have e : one y s l = s := by unfold one; rw [if_neg h]
    rw [e]
    refine ⟨wq, g.found, g.wait, g.nd, g.way, g.sorted, fun p hpm => ?_, g.clo, fun k hk e => ?_, g.z0⟩
    · rcases g.frm p hpm with z | z | ⟨k, hk, z⟩
      · exact .inl z
      · exact .inr (.inl z)
      · exact .inr (.inr ⟨k, List.mem_append_left _ hk, z⟩)
    · rcases List.mem_append.mp hk with hk | hk
      · exact g.cloh k hk e
      · rw [List.mem_singleton.mp hk] at e ⊢
        have : l.taker ∈ s.found.map Prod.fst := Classical.byContradiction fun q => h ⟨e, q⟩
        obtain ⟨p, hpm, e2⟩ := List.mem_map.mp this
        exact ⟨p.2, by rw [← e2]; exact hpm, .inr (hlt p hpm)⟩
theorem Bg.fold {steps : List Lv} {z0 y : Str} {ry : List Int} {done : List (Str × List Int)} : ∀ (todo pre : List Lv) {wq : List (Str × List Int)} {s : Fw}, Bg steps pre z0 y ry done wq s → (pre ++ todo).Pairwise (fun a b => a.num < b.num) → (∀ l ∈ todo, l ∈ steps) → ∃ wq', Bg steps (pre ++ todo) z0 y ry done wq' (todo.foldl (one y) s)
  | [], pre, wq, s, g, _, _ => ⟨wq, by rw [List.append_nil]; exact g⟩
  | l :: todo, pre, wq, s, g, hs, hm => by
    have hp : ∀ q ∈ pre, q.num < l.num := fun q hq => (List.pairwise_append.mp hs).2.2 q hq l (by simp)
    obtain ⟨wq1, g1⟩ := g.step (hm l (by simp)) hp
    have e : pre ++ l :: todo = pre ++ [l] ++ todo := by simp
    rw [e] at hs ⊢
    exact Bg.fold todo (pre ++ [l]) g1 hs fun q hq => hm q (List.mem_cons_of_mem _ hq)
theorem Bf.turn {steps : List Lv} {z0 : Str} {done wq : List (Str × List Int)} {s : Fw} (b : Bf steps z0 done wq s) (hs : steps.Pairwise fun a b => a.num < b.num) : ∃ done' wq', Bf steps z0 done' wq' (turn steps s) := by
  cases hw : wq with
  | nil =>
    have : s.wait = [] := by rw [b.wait, hw]; rfl
    have e : PL.turn steps s = s := by unfold PL.turn; rw [this]
    rw [e]; exact ⟨done, wq, b⟩
  | cons h w =>
    obtain ⟨y, ry⟩ := h
    subst hw
    have e1 : s.wait = y :: w.map Prod.fst := by rw [b.wait]; rfl
    have e : PL.turn steps s = steps.foldl (one y) ⟨s.found, w.map Prod.fst⟩ := by unfold PL.turn; rw [e1]
    rw [e]
    have g : Bg steps [] z0 y ry done w ⟨s.found, w.map Prod.fst⟩ := ⟨b.found, rfl, b.nd, b.way, b.sorted, (fun p hp => by
      rcases b.frm p hp with z | z
      · exact .inl z
      · exact .inr (.inl z)), b.clo, (fun l hl => by cases hl), b.z0⟩
    obtain ⟨wq', g'⟩ := Bg.fold steps [] g (by simpa using hs) fun _ h => h
    rw [List.nil_append] at g'
    refine ⟨done ++ [(y, ry)], wq', by rw [g'.found]; simp, g'.wait, g'.nd, g'.way, g'.sorted, fun p hp => ?_, fun q hq l hl e => ?_, g'.z0⟩
    · rcases g'.frm p hp with z | ⟨q, hq, n, z⟩ | ⟨l, _, z⟩
      · exact .inl z
      · exact .inr ⟨q, List.mem_append_left _ hq, n, z⟩
      · exact .inr ⟨(y, ry), by simp, l.num, z⟩
    · rcases List.mem_append.mp hq with hq | hq
      · exact g'.clo q hq l hl e
      · rw [List.mem_singleton.mp hq] at e ⊢
        exact g'.cloh l hl e
theorem Bf.turns {steps : List Lv} {z0 : Str} (hs : steps.Pairwise fun a b => a.num < b.num) : ∀ (n : Nat) {done wq : List (Str × List Int)} {s : Fw}, Bf steps z0 done wq s → ∃ done' wq', Bf steps z0 done' wq' (turns steps n s)
  | 0, done, wq, _, b => ⟨done, wq, b⟩
  | n + 1, _, _, _, b => by
    obtain ⟨d1, w1, b1⟩ := b.turn hs
    exact Bf.turns hs n b1
theorem Bf.end_ {steps : List Lv} {z0 z : Str} {done wq : List (Str × List Int)} {s : Fw} (b : Bf steps z0 done wq s) (hw : s.wait = []) {r' : List Int} (w : Way steps z0 z r') : ∃ r, (z, r) ∈ s.found ∧ rle r r' := by
  have hq : wq = [] := by
    have := b.wait; rw [hw] at this
    exact List.map_eq_nil_iff.mp this.symm
  have hd : s.found = done := by rw [b.found, hq, List.append_nil]
  induction w with
  | nil => exact ⟨[], b.z0, .refl _⟩
  | snoc w hl ih =>
    obtain ⟨r, h1, h2⟩ := ih
    rw [hd] at h1
    obtain ⟨r2, h3, h4⟩ := b.clo _ h1 _ hl rfl
    exact ⟨r2, h3, h4.trans (rle_snoc h2)⟩
theorem WF.turn {z0 : Str} {steps : List Lv} {s : Fw} (w : WF z0 steps s) : WF z0 steps (turn steps s) := by
  unfold PL.turn
  cases h : s.wait with
  | nil => exact w
  | cons a t =>
    obtain ⟨w1, hh⟩ := w.pop h
    exact WF.fold steps (fun _ h => h) w1 hh
theorem WF.turns {z0 : Str} {steps : List Lv} : ∀ (n : Nat) {s : Fw}, WF z0 steps s → WF z0 steps (turns steps n s)
  | 0, _, w => w
  | n + 1, _, w => WF.turns n w.turn
/-- the shortest and first of all ways, or none -/
theorem turns_best {steps : List Lv} {z0 : Str} {n : Nat} (hs : steps.Pairwise fun a b => a.num < b.num) (hw : (turns steps n ⟨[(z0, [])], [z0]⟩).wait = []) (z : Str) :
    match rowAt (turns steps n ⟨[(z0, [])], [z0]⟩).found z with
    | some r => Best steps z0 z r ∧ r.length ≤ steps.length
    | none => ∀ r, ¬ Way steps z0 z r := by
  obtain ⟨done, wq, b⟩ := Bf.turns hs n Bf.start
  have wf := WF.turns n (WF.start (steps := steps) (z := z0))
  generalize PL.turns steps n ⟨[(z0, [])], [z0]⟩ = S at b hw wf
  by_cases h : z ∈ S.found.map Prod.fst
  · obtain ⟨r, h1, h2⟩ := rowAt_mem h
    rw [h1]
    refine ⟨⟨b.way _ h2, fun r' hr' => ?_⟩, ?_⟩
    · obtain ⟨r2, h3, h4⟩ := b.end_ hw hr'
      have := rowAt_of b.nd h3
      rw [h1] at this
      rw [Option.some.inj this]; exact h4
    · have h5 : r.length + 1 ≤ S.found.length := wf.b _ h2
      have := wf.c
      omega
  · rw [rowAt_none h]
    intro r hr
    obtain ⟨r2, h3, _⟩ := b.end_ hw hr
    exact h (List.mem_map.mpr ⟨_, h3, rfl⟩)
end PL
set_option Elab.async false
set_option linter.all false
set_option autoImplicit false
set_option maxRecDepth 100000
set_option maxHeartbeats 4000000
/-! PLzs: rounds over all leaves till nothing gets less; the same best ways. -/
namespace PL
open PySem PySem.Spec PyProof.Rows L2
open Classical in
noncomputable def putR (f : List (Str × List Int)) (z : Str) (r : List Int) : List (Str × List Int) := if z ∈ f.map Prod.fst then f.map (fun p => if p.1 = z then (p.1, r) else p) else f ++ [(z, r)]
theorem rowAt_cons {p : Str × List Int} {f : List (Str × List Int)} {z : Str} : rowAt (p :: f) z = if p.1 = z then some p.2 else rowAt f z := by
  unfold rowAt
  rw [List.find?_cons]
  by_cases h : p.1 = z
  · have : (p.1 == z) = true := by simpa using h
    rw [this, if_pos h]; rfl
  · have : (p.1 == z) = false := by simpa using h
    rw [this, if_neg h]
theorem rowAt_app {f g : List (Str × List Int)} {z : Str} : rowAt (f ++ g) z = (rowAt f z).or (rowAt g z) := by
  induction f with
  | nil => simp [rowAt]
  | cons p f ih =>
    rw [List.cons_append, rowAt_cons, rowAt_cons, ih]
    split <;> simp
theorem rowAt_key {f : List (Str × List Int)} {z : Str} {r : List Int} (h : rowAt f z = some r) : z ∈ f.map Prod.fst := Classical.byContradiction fun q => by rw [rowAt_none q] at h; cases h
theorem rowAt_put {f : List (Str × List Int)} {z y : Str} {r : List Int} : rowAt (putR f z r) y = if y = z then some r else rowAt f y := by
  unfold putR
  split
  · rename_i h
    have : ∀ g : List (Str × List Int), rowAt (g.map (fun p => if p.1 = z then (p.1, r) else p)) y = if y = z ∧ z ∈ g.map Prod.fst then some r else rowAt g y := fun g => by
      induction g with
      | nil => simp [rowAt]
      | cons p g ih =>
        rw [List.map_cons, rowAt_cons, rowAt_cons, ih, List.map_cons]
        by_cases hp : p.1 = z
        · rw [if_pos hp]
          by_cases hy : y = z
          · subst hy; simp [hp]
          · have : ¬ p.1 = y := fun e => hy (e.symm.trans hp)
            simp [this, hy]
        · rw [if_neg hp]
          by_cases hy : y = z
          · subst hy
            have h2 : ¬ y = p.1 := fun e => hp e.symm
            simp only [if_neg hp, List.mem_cons, h2, false_or]
          · simp [hy]
    rw [this]
    simp [h]
  · rename_i h
    rw [rowAt_app, rowAt_cons]
    by_cases hy : y = z
    · subst hy
      rw [rowAt_none h]; simp
    · have : ¬ z = y := fun e => hy e.symm
      rw [if_neg hy, if_neg this]
      cases rowAt f y <;> simp [rowAt]
theorem fD_putR (f : List (Str × List Int)) (z : Str) (r : List Int) : putD (fD f) (.str z) (.list (r.map .int)) = fD (putR f z r) := by
  unfold putD putR
  classical
  have h : ∀ (dc : ∀ p : D × D, Decidable (p.1 = PyData.str z)), (((fD f).any fun p => @decide (p.1 = PyData.str z) (dc p)) = true) ↔ z ∈ f.map Prod.fst := by
    intro dc
    rw [List.any_eq_true]
    constructor
    · rintro ⟨p, hp, e⟩
      obtain ⟨q, hq, rfl⟩ := List.mem_map.mp hp
      have e := of_decide_eq_true e
      exact List.mem_map.mpr ⟨q, hq, PyData.str.inj e⟩
    · intro h
      obtain ⟨q, hq, e⟩ := List.mem_map.mp h
      exact ⟨_, List.mem_map.mpr ⟨q, hq, rfl⟩, decide_eq_true (by rw [e])⟩
  by_cases hz : z ∈ f.map Prod.fst
  · rw [if_pos ((h _).mpr hz), if_pos hz, fD, fD, List.map_map, List.map_map]
    apply List.map_congr_left
    intro p hp
    show (if PyData.str p.1 = PyData.str z then _ else _) = _
    by_cases e : p.1 = z
    · simp [e]
    · have : ¬ PyData.str p.1 = PyData.str z := fun q => e (PyData.str.inj q)
      rw [if_neg this]
      simp [e]
  · rw [if_neg (fun q => hz ((h _).mp q)), if_neg hz, fD, fD, List.map_append]; rfl
def rltB (r s : List Int) : Bool := decide (r.length < s.length) || (decide (r.length = s.length) && lexB r s)
theorem rltB_iff {r s : List Int} : rltB r s = true ↔ rlt r s := by unfold rltB rlt; simp
noncomputable def bfOne (b : List (Str × List Int)) (l : Lv) : List (Str × List Int) := match rowAt b l.giver with
  | none => b
  | some r => match rowAt b l.taker with
    | none => putR b l.taker (r ++ [l.num])
    | some old => if rltB (r ++ [l.num]) old = true then putR b l.taker (r ++ [l.num]) else b
def leR (b b' : List (Str × List Int)) : Prop := ∀ z r, rowAt b z = some r → ∃ r2, rowAt b' z = some r2 ∧ rle r2 r
theorem leR.refl (b : List (Str × List Int)) : leR b b := fun z r h => ⟨r, h, .refl _⟩
theorem leR.trans {a b c : List (Str × List Int)} (h : leR a b) (g : leR b c) : leR a c := fun z r q => by
  obtain ⟨r2, h1, h2⟩ := h z r q
  obtain ⟨r3, h3, h4⟩ := g z r2 h1
  exact ⟨r3, h3, h4.trans h2⟩
theorem bfOne_le (b : List (Str × List Int)) (l : Lv) : leR b (bfOne b l) := by
  unfold bfOne
  split
  · exact .refl _
  · rename_i r hr
    split
    · rename_i ht
      intro z s hs
      rw [rowAt_put]
      by_cases e : z = l.taker
      · rw [e, ht] at hs; cases hs
      · rw [if_neg e]; exact ⟨s, hs, .refl _⟩
    · rename_i old ht
      split
      · rename_i hlt
        intro z s hs
        rw [rowAt_put]
        by_cases e : z = l.taker
        · rw [e, ht] at hs
          cases hs
          rw [if_pos e]; exact ⟨_, rfl, .inr (rltB_iff.mp hlt)⟩
        · rw [if_neg e]; exact ⟨s, hs, .refl _⟩
      · exact .refl _
theorem bfOne_at {b : List (Str × List Int)} {l : Lv} {r : List Int} (h : rowAt b l.giver = some r) : ∃ r2, rowAt (bfOne b l) l.taker = some r2 ∧ rle r2 (r ++ [l.num]) := by
  unfold bfOne
  rw [h]
  cases ht : rowAt b l.taker with
  | none => exact ⟨_, by rw [rowAt_put, if_pos rfl], .refl _⟩
  | some old =>
    dsimp only
    split
    · exact ⟨_, by rw [rowAt_put, if_pos rfl], .refl _⟩
    · rename_i hn
      refine ⟨old, ht, ?_⟩
      rcases rle_or old (r ++ [l.num]) with q | q
      · exact q
      · exact absurd (rltB_iff.mpr q) hn
theorem bfOne_way {steps : List Lv} {z0 : Str} {b : List (Str × List Int)} {l : Lv} (hl : l ∈ steps) (h : ∀ z r, rowAt b z = some r → Way steps z0 z r) : ∀ z r, rowAt (bfOne b l) z = some r → Way steps z0 z r := by
  unfold bfOne
  split
  · exact h
  · rename_i r hr
    have w := Way.snoc (h _ _ hr) hl
    have put : ∀ z s, rowAt (putR b l.taker (r ++ [l.num])) z = some s → Way steps z0 z s := fun z s hs => by
      rw [rowAt_put] at hs
      split at hs
      · rename_i e
        cases hs; rw [e]; exact w
      · exact h _ _ hs
    split
    · exact put
    · split
      · exact put
      · exact h
theorem bf_fold_le : ∀ (ls : List Lv) (b : List (Str × List Int)), leR b (ls.foldl bfOne b)
  | [], b => .refl _
  | l :: ls, b => (bfOne_le b l).trans (bf_fold_le ls _)
theorem bf_fold_way {steps : List Lv} {z0 : Str} : ∀ (ls : List Lv) {b : List (Str × List Int)}, (∀ l ∈ ls, l ∈ steps) → (∀ z r, rowAt b z = some r → Way steps z0 z r) → ∀ z r, rowAt (ls.foldl bfOne b) z = some r → Way steps z0 z r
  | [], _, _, h => h
  | l :: ls, _, hm, h => bf_fold_way ls (fun q hq => hm q (List.mem_cons_of_mem _ hq)) (bfOne_way (hm l (by simp)) h)
noncomputable def bfRounds (steps : List Lv) : Nat → List (Str × List Int) → List (Str × List Int)
  | 0, b => b
  | n + 1, b => bfRounds steps n (steps.foldl bfOne b)
theorem bfRounds_succ (steps : List Lv) : ∀ (n : Nat) (b : List (Str × List Int)), bfRounds steps (n + 1) b = steps.foldl bfOne (bfRounds steps n b)
  | 0, _ => rfl
  | n + 1, b => bfRounds_succ steps n (steps.foldl bfOne b)
theorem bf_way {steps : List Lv} {z0 : Str} : ∀ (n : Nat), ∀ z r, rowAt (bfRounds steps n [(z0, [])]) z = some r → Way steps z0 z r
  | 0 => fun z r h => by
    have h : rowAt [(z0, [])] z = some r := h
    rw [rowAt_cons] at h
    split at h
    · rename_i e
      cases h; rw [← e]; exact .nil
    · simp [rowAt] at h
  | n + 1 => by
    rw [bfRounds_succ]
    exact bf_fold_way steps (fun _ h => h) (bf_way n)
theorem bf_best {steps : List Lv} {z0 : Str} : ∀ (n : Nat) (z : Str) (r' : List Int), Way steps z0 z r' → r'.length ≤ n → ∃ r, rowAt (bfRounds steps n [(z0, [])]) z = some r ∧ rle r r' := by
  intro n
  induction n with
  | zero =>
    intro z r' w hl
    cases w with
    | nil => exact ⟨[], by show rowAt [(z0, [])] z0 = _; rw [rowAt_cons, if_pos rfl], .refl _⟩
    | snoc w hm => simp at hl
  | succ n ih =>
    intro z r' w hl
    rw [bfRounds_succ]
    cases w with
    | nil =>
      obtain ⟨r, h1, h2⟩ := ih z0 [] .nil (by simp)
      obtain ⟨r2, h3, h4⟩ := bf_fold_le steps _ _ _ h1
      exact ⟨r2, h3, h4.trans h2⟩
    | @snoc r0 l w hm =>
      obtain ⟨r, h1, h2⟩ := ih _ r0 w (by simpa using hl)
      obtain ⟨pre, post, e⟩ := List.append_of_mem hm
      have e2 : ∀ b, steps.foldl bfOne b = post.foldl bfOne (bfOne (pre.foldl bfOne b) l) := fun b => by
        conv => lhs; rw [e]
        rw [List.foldl_append, List.foldl_cons]
      rw [e2]
      obtain ⟨r2, h3, h4⟩ := bf_fold_le pre _ _ _ h1
      obtain ⟨r3, h5, h6⟩ := bfOne_at h3
      obtain ⟨r4, h7, h8⟩ := bf_fold_le post _ _ _ h5
      exact ⟨r4, h7, h8.trans (h6.trans (rle_snoc (h4.trans h2)))⟩
/-- both goings tell the same -/
theorem bf_turns {steps : List Lv} {z0 : Str} {n m : Nat} (hs : steps.Pairwise fun a b => a.num < b.num) (hw : (turns steps n ⟨[(z0, [])], [z0]⟩).wait = []) (hm : steps.length ≤ m) (z : Str) :
    rowAt (turns steps n ⟨[(z0, [])], [z0]⟩).found z = rowAt (bfRounds steps m [(z0, [])]) z := by
  have h := turns_best hs hw z
  cases hr : rowAt (turns steps n ⟨[(z0, [])], [z0]⟩).found z with
  | none =>
    rw [hr] at h
    cases hb : rowAt (bfRounds steps m [(z0, [])]) z with
    | none => rfl
    | some r => exact absurd (bf_way m z r hb) (h r)
  | some r =>
    rw [hr] at h
    obtain ⟨r2, h1, h2⟩ := bf_best m z r h.1.1 (Nat.le_trans h.2 hm)
    have h3 := h.1.2 _ (bf_way m z r2 h1)
    rw [h1, h2.anti h3]
end PL
set_option Elab.async false
set_option linter.all false
set_option autoImplicit false
set_option maxRecDepth 100000
set_option maxHeartbeats 4000000
/-! PLzt: sorted of texts, of a list or of a dict's keys; going on till nothing new comes. -/
namespace PL
open PySem PySem.Spec PyProof.Rows L2
/-- the equations that exp.py names, so that they are there -/
theorem eqs_here : True := by
  have := @gAdd.eq_1
  have := @gAdd.eq_2
  have := @gAdd.eq_3
  have := @gAdd.eq_4
  have := @PL.gSub.eq_1
  have := @gMod.eq_1
  have := @gDiv.eq_1
  have := @gPow.eq_1
  have := @gMul.eq_1
  have := @gMul.eq_2
  have := @gMul.eq_3
  have := @gCmp.eq_1
  have := @gCmp.eq_2
  have := @gLen.eq_1
  have := @gLen.eq_2
  have := @gLen.eq_3
  have := @gAbs.eq_1
  have := @gInt.eq_1
  have := @gInt.eq_2
  have := @gI2.eq_1
  have := @gTup1.eq_1
  have := @gTup1.eq_2
  have := @gLst1.eq_1
  have := @gLst1.eq_2
  have := @gAppend.eq_1
  have := @gCount.eq_1
  have := @gUpper.eq_1
  trivial
theorem sortS {zs : List Str} (hn : zs.Nodup) : ∃ ys, sortD (zs.map PyData.str) = ys.map .str ∧ UpS ys ∧ (∀ y, y ∈ ys ↔ y ∈ zs) ∧ ys.length = zs.length := by
  obtain ⟨ys, h1, h2⟩ := sort_map PyData.str zs
  refine ⟨ys, h1, ⟨h2.nodup_iff.mpr hn, ?_⟩, fun y => h2.mem_iff, h2.length_eq⟩
  have h3 := sortD_pw (zs.map PyData.str)
  rw [h1, List.pairwise_map] at h3
  exact h3
theorem strs_lay {n : Nat} {zs : List Str} (ht : ∀ z ∈ zs, TOk n z) : PyData.canLayAll0 (zs.map PyData.str) = true ∧ (∀ e ∈ zs.map PyData.str, e ≠ .tuple [] ∧ e.depth ≤ 64) ∧ PySem.W.AllAlike (zs.map PyData.str) ∧ PySem.W.Sortable (zs.map PyData.str) := by
  have hm : ∀ d ∈ zs.map PyData.str, ∃ z ∈ zs, d = .str z := fun d hd => by
    obtain ⟨z, hz, rfl⟩ := List.mem_map.mp hd
    exact ⟨z, hz, rfl⟩
  refine ⟨canLay_all fun d hd => ?_, fun d hd => ?_, fun d hd e he => ?_, .inr fun d hd => ?_⟩
  · obtain ⟨z, hz, rfl⟩ := hm d hd
    exact (ht z hz).strOk
  · obtain ⟨z, hz, rfl⟩ := hm d hd
    exact ⟨fun h => (by cases h), Nat.zero_le _⟩
  · obtain ⟨z, hz, rfl⟩ := hm d hd
    obtain ⟨y, hy, rfl⟩ := hm e he
    rfl
  · obtain ⟨z, hz, rfl⟩ := hm d hd
    exact ⟨fun z => (by cases z), fun xs z => (by cases z)⟩
theorem gSort_strs {n : Nat} {zs : List Str} {Q : Out → Prop} (hn : zs.Nodup) (ht : ∀ z ∈ zs, TOk n z) (h : ∀ ys : List Str, UpS ys → (∀ y, y ∈ ys ↔ y ∈ zs) → ys.length = zs.length → Q (.new (.list (ys.map .str)))) : gSort (.list (zs.map .str)) Q := by
  obtain ⟨l1, l2, l3, l4⟩ := strs_lay ht
  obtain ⟨ys, h1, h2, h3, h4⟩ := sortS hn
  refine gSort_list l1 (fun e he => (l2 e he).2) l3 l4 ?_
  rw [h1]; exact h ys h2 h3 h4
theorem gSort_keys {α : Type} {n : Nat} {f : α → Str} {g : α → D} {ps : List α} {Q : Out → Prop} (hn : (ps.map f).Nodup) (ht : ∀ p ∈ ps, TOk n (f p)) (h : ∀ ys : List Str, UpS ys → (∀ y, y ∈ ys ↔ y ∈ ps.map f) → ys.length = ps.length → Q (.new (.list (ys.map .str)))) : gSort (.dict (ps.map fun p => (PyData.str (f p), g p))) Q := by
  have hk : keysD (ps.map fun p => (PyData.str (f p), g p)) = (ps.map f).map PyData.str := by
    unfold keysD
    rw [isTd_map f g ps, List.map_map, List.map_map]; rfl
  have ht2 : ∀ z ∈ ps.map f, TOk n z := fun z hz => by
    obtain ⟨p, hp, rfl⟩ := List.mem_map.mp hz
    exact ht p hp
  obtain ⟨l1, l2, l3, l4⟩ := strs_lay ht2
  obtain ⟨ys, h1, h2, h3, h4⟩ := sortS hn
  refine .inr ⟨_, rfl, ?_⟩
  rw [hk]
  refine ⟨l1, l2, l3, l4, ?_⟩
  rw [h1]; exact h ys h2 h3 (by rw [h4, List.length_map])
/-- going on by all leaves in turn -/
def ctOne (P : Lv → Bool) (f : List Str) (l : Lv) : List Str := if l.giver ∈ f ∧ l.taker ∉ f ∧ P l = true then f ++ [l.taker] else f
def ctRounds (P : Lv → Bool) (ls : List Lv) : Nat → List Str → List Str
  | 0, f => f
  | n + 1, f => ctRounds P ls n (ls.foldl (ctOne P) f)
theorem ctRounds_succ (P : Lv → Bool) (ls : List Lv) : ∀ (n : Nat) (f : List Str), ctRounds P ls (n + 1) f = ls.foldl (ctOne P) (ctRounds P ls n f)
  | 0, _ => rfl
  | n + 1, f => ctRounds_succ P ls n (ls.foldl (ctOne P) f)
theorem ctOne_sub {P : Lv → Bool} {f : List Str} {l : Lv} {z : Str} (h : z ∈ f) : z ∈ ctOne P f l := by
  unfold ctOne; split
  · exact List.mem_append_left _ h
  · exact h
theorem ct_sub {P : Lv → Bool} {z : Str} : ∀ (ls : List Lv) {f : List Str}, z ∈ f → z ∈ ls.foldl (ctOne P) f
  | [], _, h => h
  | l :: ls, _, h => ct_sub ls (ctOne_sub h)
theorem ctOne_at {P : Lv → Bool} {f : List Str} {l : Lv} (h : l.giver ∈ f) (hp : P l = true) : l.taker ∈ ctOne P f l := by
  unfold ctOne
  by_cases ht : l.taker ∈ f
  · split
    · exact List.mem_append_left _ ht
    · exact ht
  · rw [if_pos ⟨h, ht, hp⟩]; simp
theorem ctOne_nd {P : Lv → Bool} {f : List Str} {l : Lv} (h : f.Nodup) : (ctOne P f l).Nodup := by
  unfold ctOne
  split
  · rename_i q
    rw [List.nodup_append]
    refine ⟨h, by simp, fun a ha b hb => ?_⟩
    rw [List.mem_singleton] at hb
    rintro rfl
    rw [hb] at ha
    exact q.2.1 ha
  · exact h
theorem ctOne_way {P : Lv → Bool} {steps ls : List Lv} {z0 : Str} {f : List Str} {l : Lv} (hs : ∀ l ∈ ls, P l = true → l ∈ steps) (hl : l ∈ ls) (h : ∀ z ∈ f, ∃ r, Way steps z0 z r) : ∀ z ∈ ctOne P f l, ∃ r, Way steps z0 z r := by
  unfold ctOne
  split
  · rename_i q
    intro z hz
    rcases List.mem_append.mp hz with hz | hz
    · exact h z hz
    · rw [List.mem_singleton.mp hz]
      obtain ⟨r, hr⟩ := h _ q.1
      exact ⟨_, .snoc hr (hs l hl q.2.2)⟩
  · exact h
theorem ct_nd {P : Lv → Bool} : ∀ (ls : List Lv) {f : List Str}, f.Nodup → (ls.foldl (ctOne P) f).Nodup
  | [], _, h => h
  | l :: ls, _, h => ct_nd ls (ctOne_nd h)
theorem ct_way {P : Lv → Bool} {steps ls : List Lv} {z0 : Str} (hs : ∀ l ∈ ls, P l = true → l ∈ steps) : ∀ (ks : List Lv) {f : List Str}, (∀ l ∈ ks, l ∈ ls) → (∀ z ∈ f, ∃ r, Way steps z0 z r) → ∀ z ∈ ks.foldl (ctOne P) f, ∃ r, Way steps z0 z r
  | [], _, _, h => h
  | l :: ks, _, hm, h => ct_way hs ks (fun q hq => hm q (List.mem_cons_of_mem _ hq)) (ctOne_way hs (hm l (by simp)) h)
theorem ctR_nd {P : Lv → Bool} {ls : List Lv} : ∀ (n : Nat) {f : List Str}, f.Nodup → (ctRounds P ls n f).Nodup
  | 0, _, h => h
  | n + 1, _, h => ctR_nd n (ct_nd ls h)
theorem ctR_way {P : Lv → Bool} {steps ls : List Lv} {z0 : Str} (hs : ∀ l ∈ ls, P l = true → l ∈ steps) : ∀ (n : Nat) {f : List Str}, (∀ z ∈ f, ∃ r, Way steps z0 z r) → ∀ z ∈ ctRounds P ls n f, ∃ r, Way steps z0 z r
  | 0, _, h => h
  | n + 1, _, h => ctR_way hs n (ct_way hs ls (fun _ h => h) h)
theorem ctR_all {P : Lv → Bool} {steps ls : List Lv} {z0 : Str} {f : List Str} (hz : z0 ∈ f) (hs : ∀ l ∈ steps, l ∈ ls ∧ P l = true) : ∀ (n : Nat) (z : Str) (r : List Int), Way steps z0 z r → r.length ≤ n → z ∈ ctRounds P ls n f := by
  intro n
  induction n with
  | zero =>
    intro z r w hl
    cases w with
    | nil => exact hz
    | snoc w hm => simp at hl
  | succ n ih =>
    intro z r w hl
    rw [ctRounds_succ]
    cases w with
    | nil => exact ct_sub ls (ih z0 [] .nil (by simp))
    | @snoc r0 l w hm =>
      have h1 := ih _ r0 w (by simpa using hl)
      obtain ⟨hm, hp⟩ := hs l hm
      obtain ⟨pre, post, e⟩ := List.append_of_mem hm
      have e2 : ∀ b, ls.foldl (ctOne P) b = post.foldl (ctOne P) (ctOne P (pre.foldl (ctOne P) b) l) := fun b => by
        conv => lhs; rw [e]
        rw [List.foldl_append, List.foldl_cons]
      rw [e2]
      exact ct_sub post (ctOne_at (ct_sub pre h1) hp)
/-- whom the going finds, whom the rounds find -/
theorem turns_keys {steps : List Lv} {z0 : Str} {n : Nat} (hs : steps.Pairwise fun a b => a.num < b.num) (hw : (turns steps n ⟨[(z0, [])], [z0]⟩).wait = []) (z : Str) :
    z ∈ (turns steps n ⟨[(z0, [])], [z0]⟩).found.map Prod.fst ↔ ∃ r, Way steps z0 z r := by
  have h := turns_best hs hw z
  constructor
  · intro hz
    obtain ⟨r, h1, _⟩ := rowAt_mem hz
    rw [h1] at h
    exact ⟨r, h.1.1⟩
  · rintro ⟨r, hr⟩
    apply Classical.byContradiction
    intro hz
    rw [rowAt_none hz] at h
    exact h r hr
theorem turns_nd {steps : List Lv} {z0 : Str} {n : Nat} (hs : steps.Pairwise fun a b => a.num < b.num) : ((turns steps n ⟨[(z0, [])], [z0]⟩).found.map Prod.fst).Nodup := by
  obtain ⟨done, wq, b⟩ := Bf.turns hs n Bf.start
  exact b.nd
theorem ct_turns {P : Lv → Bool} {steps ls : List Lv} {z0 : Str} {n m : Nat} (hs : steps.Pairwise fun a b => a.num < b.num) (hw : (turns steps n ⟨[(z0, [])], [z0]⟩).wait = []) (hp : ∀ l, l ∈ steps ↔ l ∈ ls ∧ P l = true) (hm : steps.length ≤ m) (z : Str) :
    z ∈ (turns steps n ⟨[(z0, [])], [z0]⟩).found.map Prod.fst ↔ z ∈ ctRounds P ls m [z0] := by
  constructor
  · intro hz
    have h := turns_best hs hw z
    obtain ⟨r, h1, _⟩ := rowAt_mem hz
    rw [h1] at h
    exact ctR_all (by simp) (fun l hl => (hp l).mp hl) m z r h.1.1 (Nat.le_trans h.2 hm)
  · intro hz
    exact (turns_keys hs hw z).mpr (ctR_way (fun l h1 h2 => (hp l).mpr ⟨h1, h2⟩) m (fun y hy => by rw [List.mem_singleton.mp hy]; exact ⟨[], .nil⟩) z hz)
end PL
set_option Elab.async false
set_option linter.all false
set_option autoImplicit false
set_option maxRecDepth 100000
set_option maxHeartbeats 4000000
/-! PLzu: x < y of any data that are alike. -/
namespace PL
open PySem PySem.Spec PyProof.Rows L2
def gLtA : D → D → (Out → Prop) → Prop
  | .int i, .int j, Q => Q (.val (.bool (decide (i < j))))
  | x, y, Q => (PySem.W.alike x y = true ∧ x.canLay0 = true ∧ y.canLay0 = true ∧ x ≠ .none ∧ x.depth ≤ 64) ∧ Q (.val (.bool (PySem.W.dataLt x y)))
def rLtA (K : PySem.W.Frag) : R2 := fun x y H Q => (rCmp (fun i j => decide (i < j)) sLt) x y H Q ∨ ∃ d1 d2, Dp K H x d1 ∧ Dp K H y d2 ∧ PySem.W.alike d1 d2 = true ∧ d1 ≠ .none ∧ d1.depth ≤ 64 ∧ Q (V.bl (PySem.W.dataLt d1 d2)) H
section
variable {X : Cx}
theorem op_ltA2 (hu : X.A.units + 64 < cLine) : OpR X (compareOp .Lt) (fun x y H Q => ∃ d1 d2, Dp X.K H x d1 ∧ Dp X.K H y d2 ∧ PySem.W.alike d1 d2 = true ∧ d1 ≠ .none ∧ d1.depth ≤ 64 ∧ Q (V.bl (PySem.W.dataLt d1 d2)) H) := by
  intro pins s σ H x y v u Q I rx ry h
  obtain ⟨d1, d2, h1, h2, ha, hn, hd, qq⟩ := h
  obtain ⟨as, r1⟩ := Dp.reads I d1 x v h1 rx
  obtain ⟨bs, r2⟩ := Dp.reads I d2 y u h2 ry
  have main := PySem.W.rcLt_alike d1 d2 X.A s v u as bs r1 r2 ha hn (by omega)
  exact main X.prog X.w _ _ ⟨.bl (PySem.W.dataLt d1 d2), H, I, rfl, qq⟩
theorem op_ltD (hu : X.A.units + 64 < cLine) : OpR X (compareOp .Lt) (rLtA X.K) := op_ltA.or (op_ltA2 hu)
end
theorem g_ltA {K : PySem.W.Frag} : Op2 K (rLtA K) gLtA where
  run := fun M H d1 d2 x y Q ex v1 v2 w => by
    unfold gLtA at w
    split at w
    · rw [vwi] at v1 v2
      subst v1 v2
      exact .inl (.inl ⟨_, _, rfl, rfl, w _ (fzb.mpr rfl)⟩)
    · obtain ⟨⟨h1, h2, h3, h4, h5⟩, w⟩ := w
      exact .inr ⟨_, _, vw_dp ex h2 v1, vw_dp ex h3 v2, h1, h4, h5, w _ (fzb.mpr rfl)⟩
  mono := fun d1 d2 Q Q' h w => by
    unfold gLtA at w ⊢
    split at w
    · exact h _ w
    · exact ⟨w.1, h _ w.2⟩
theorem eqvAll_ints : ∀ (r s : List Int), PyData.eqvAll (r.map PyData.int) (s.map PyData.int) = true ↔ r = s
  | [], [] => by simp [PyData.eqvAll]
  | [], _ :: _ => by simp [PyData.eqvAll]
  | _ :: _, [] => by simp [PyData.eqvAll]
  | a :: r, b :: s => by
    rw [List.map_cons, List.map_cons, PySem.W.eqv_all_cons, Bool.and_eq_true, eqvAll_ints r s]
    simp [PyData.eqv]
theorem alike_ints : ∀ (r s : List Int), PySem.W.alikeAll (r.map PyData.int) (s.map PyData.int) = true
  | [], _ => by simp [PySem.W.alikeAll]
  | _ :: _, [] => by simp [PySem.W.alikeAll]
  | a :: r, b :: s => by
    rw [List.map_cons, List.map_cons, PySem.W.alikeAll, alike_ints r s]; rfl
theorem lex_ints : ∀ (r s : List Int), r.length = s.length → PyProof.Rows.lexLt itemOrd (PySem.W.keyToksAll (r.map PyData.int)) (PySem.W.keyToksAll (s.map PyData.int)) = lexB r s
  | [], [], _ => by rw [lexB]; exact PyProof.Rows.lex_irrefl (O := itemOrd) _
  | [], _ :: _, h => by simp at h
  | _ :: _, [], h => by simp at h
  | a :: r, b :: s, h => by
    have h2 : r.length = s.length := by simpa using h
    rw [List.map_cons, List.map_cons, lexB]
    by_cases e : a = b
    · subst e
      rw [PySem.W.dataLt_all_yes rfl (by simp [PyData.eqv]), lex_ints r s h2]
      simp
    · rw [PySem.W.dataLt_all_no rfl (by simpa [PyData.eqv] using e), PySem.W.dataLt_int]
      simp [e]
abbrev rowD (r : List Int) : D := .tuple [.int r.length, .list (r.map .int)]
theorem ints_canLay : ∀ (r : List Int), PyData.canLayAll0 (r.map PyData.int) = true
  | [] => rfl
  | a :: r => by rw [List.map_cons, PyData.canLayAll0, ints_canLay r]; rfl
theorem ints_depth : ∀ (r : List Int), PyData.depthAll (r.map PyData.int) = 0
  | [] => rfl
  | a :: r => by rw [List.map_cons, PyData.depthAll, ints_depth r]; rfl
theorem gLtA_rows {r s : List Int} {Q : Out → Prop} (h : Q (.val (.bool (rltB r s)))) : gLtA (rowD r) (rowD s) Q := by
  have lay : ∀ r : List Int, (rowD r).canLay0 = true := fun r => by
    rw [PyData.canLay0, PyData.canLayAll0, PyData.canLayAll0, PyData.canLayAll0, PyData.canLay0, PyData.canLay0, ints_canLay]; rfl
  have dep : (rowD r).depth ≤ 64 := by
    rw [PyData.depth, PyData.depthAll, PyData.depthAll, PyData.depthAll, PyData.depth, PyData.depth, ints_depth]; decide
  have hal : PySem.W.alike (.list (r.map .int)) (.list (s.map .int)) = true := by rw [PySem.W.alike]; exact alike_ints r s
  have ha : PySem.W.alike (rowD r) (rowD s) = true := by
    rw [PySem.W.alike, PySem.W.alikeAll, PySem.W.alikeAll, hal]; rfl
  have hd : PySem.W.dataLt (rowD r) (rowD s) = rltB r s := by
    rw [PySem.W.dataLt_tuple]
    unfold rltB
    by_cases e : r.length = s.length
    · have e2 : (PyData.int r.length).eqv (.int s.length) = true := by rw [e]; simp [PyData.eqv]
      rw [PySem.W.dataLt_all_yes rfl e2]
      have h1 : decide (r.length < s.length) = false := by simp; omega
      rw [h1, decide_eq_true e, Bool.false_or, Bool.true_and]
      by_cases q : r = s
      · subst q
        rw [lexB_irr]
        exact PyProof.Rows.lex_irrefl (O := itemOrd) _
      · have q2 : (PyData.list (r.map .int)).eqv (.list (s.map .int)) = false := by
          cases hq : (PyData.list (r.map .int)).eqv (.list (s.map .int)) with
          | false => rfl
          | true =>
            rw [PyData.eqv] at hq
            exact absurd ((eqvAll_ints r s).mp hq) q
        rw [PySem.W.dataLt_all_no hal q2, PySem.W.dataLt_list, lex_ints r s e]
    · have e2 : (PyData.int r.length).eqv (.int s.length) = false := by simp [PyData.eqv]; omega
      rw [PySem.W.dataLt_all_no rfl e2, PySem.W.dataLt_int, decide_eq_false e, Bool.false_and, Bool.or_false]
      simp
  unfold gLtA
  refine ⟨⟨ha, lay r, lay s, fun z => (by cases z), dep⟩, ?_⟩
  rw [hd]; exact h
theorem gLtA_i {i j : Int} {Q : Out → Prop} : gLtA (.int i) (.int j) Q = Q (.val (.bool (decide (i < j)))) := rfl
end PL
set_option Elab.async false
set_option linter.all false
set_option autoImplicit false
set_option maxRecDepth 100000
set_option maxHeartbeats 4000000
/-! PLzv: leaves sorted by their numbers; chains of leaves. -/
namespace PL
open PySem PySem.Spec PyProof.Rows L2
theorem le_lv {i j : Int} {u v : List D} (h : i ≠ j) (hle : PySem.W.dataLe false (id : D → D) (.tuple (.int i :: u)) (.tuple (.int j :: v)) = true) : i < j := by
  have hle : (!lexLt PyProof.Rows.itemOrd (PySem.W.keyToks (.tuple (.int j :: v))) (PySem.W.keyToks (.tuple (.int i :: u)))) = true := hle
  rw [Bool.not_eq_true'] at hle
  simp only [PySem.W.keyToks, PySem.W.keyToksAll, List.cons_append, List.nil_append] at hle
  replace hle := lex_same.symm.trans hle
  replace hle := (lex_num (Ne.symm h)).symm.trans hle
  simp only [decide_eq_false_iff_not] at hle
  omega
theorem lv_depth (l : Lv) : l.d.depth ≤ 64 := by unfold Lv.d; simp [PyData.depth, PyData.depthAll]
theorem gSort_lv {n : Nat} {ls : List Lv} {Q : Out → Prop} (ht : ∀ l ∈ ls, TOk n l.giver ∧ TOk n l.taker ∧ TOk n l.part) (hnd : (ls.map Lv.num).Nodup) (h : ∀ us : List Lv, us.Perm ls → us.Pairwise (fun a b => a.num < b.num) → Q (.new (.list (us.map Lv.d)))) : gSort (.list (ls.map Lv.d)) Q := by
  have hm : ∀ d ∈ ls.map Lv.d, ∃ r ∈ ls, d = r.d := fun d hd => by
    obtain ⟨r, hr, rfl⟩ := List.mem_map.mp hd
    exact ⟨r, hr, rfl⟩
  refine gSort_list (canLay_all fun d hd => ?_) (fun d hd => ?_) (fun d hd e he => ?_) (.inl fun d hd => ?_) ?_
  · obtain ⟨r, hr, rfl⟩ := hm d hd
    obtain ⟨h1, h2, h3⟩ := ht r hr
    unfold Lv.d
    simp only [PyData.canLay0, PyData.canLayAll0]
    have e1 : PyData.strOk r.giver = true := h1.strOk
    have e2 : PyData.strOk r.taker = true := h2.strOk
    have e3 : PyData.strOk r.part = true := h3.strOk
    rw [e1, e2, e3]; rfl
  · obtain ⟨r, hr, rfl⟩ := hm d hd
    exact lv_depth r
  · obtain ⟨r, hr, rfl⟩ := hm d hd
    obtain ⟨q, hq, rfl⟩ := hm e he
    rfl
  · obtain ⟨r, hr, rfl⟩ := hm d hd
    exact ⟨_, _, rfl⟩
  · obtain ⟨us, hpm, he⟩ := perm_map_exists (sortD_perm (ls.map Lv.d))
    rw [he]
    refine h us hpm ?_
    have hp := sortD_pw (ls.map Lv.d)
    rw [he, List.pairwise_map] at hp
    have hnd2 : (us.map Lv.num).Nodup := (hpm.map _).nodup_iff.mpr hnd
    have h2 : us.Pairwise fun a b => a.num ≠ b.num := by
      have : (us.map Lv.num).Pairwise (· ≠ ·) := hnd2
      rwa [List.pairwise_map] at this
    exact (hp.and h2).imp fun {a b} q => le_lv q.2 q.1
theorem gSort_intsUp {ns : List Int} {Q : Out → Prop} (hnd : ns.Nodup) (h : ∀ us : List Int, us.Perm ns → us.Pairwise (· < ·) → Q (.new (.list (us.map .int)))) : gSort (.list (ns.map .int)) Q := by
  refine gSort_ints ?_
  obtain ⟨us, hpm, he⟩ := perm_map_exists (sortD_perm (ns.map PyData.int))
  rw [he]
  refine h us hpm ?_
  have hp := sortD_pw (ns.map PyData.int)
  rw [he, List.pairwise_map] at hp
  have hnd2 : us.Pairwise (· ≠ ·) := hpm.nodup_iff.mpr hnd
  refine (hp.and hnd2).imp fun {a b} q => ?_
  have := q.1
  rw [le_int, decide_eq_true_iff] at this
  have := q.2
  omega
/-! ### chains -/
/-- leaves one behind the other, from each to the next one -/
structure Chain (p : List Str) (ls : List Lv) : Prop where
  nd : p.Nodup
  len : ls.length + 1 = p.length
  at_ : ∀ (k : Nat) (l : Lv), ls[k]? = some l → p[k]? = some l.giver ∧ p[k + 1]? = some l.taker
theorem nd_at {p : List Str} (h : p.Nodup) {i j : Nat} {z : Str} (hi : p[i]? = some z) (hj : p[j]? = some z) : i = j := nodup_inj h hi hj
theorem take_snoc {ns : List Int} {a b : Nat} (hab : a ≤ b) {x : Int} (hx : ns[b]? = some x) : (ns.drop a).take (b + 1 - a) = (ns.drop a).take (b - a) ++ [x] := by
  rw [show b + 1 - a = (b - a) + 1 by omega, List.take_succ, List.getElem?_drop, show a + (b - a) = b by omega, hx]; rfl
theorem chain_to {p : List Str} {ls steps : List Lv} (c : Chain p ls) {ok : Nat → Prop} (hs : ∀ l, l ∈ steps ↔ ∃ k, ls[k]? = some l ∧ ok k) {a : Nat} {za : Str} (ha : p[a]? = some za) {z : Str} {r : List Int} (w : Way steps za z r) :
    ∃ b, a ≤ b ∧ p[b]? = some z ∧ r = ((ls.map Lv.num).drop a).take (b - a) ∧ ∀ k, a ≤ k → k < b → ok k := by
  induction w with
  | nil => exact ⟨a, Nat.le_refl _, ha, by simp, fun k h1 h2 => absurd h1 (by omega)⟩
  | @snoc r l w hm ih =>
    obtain ⟨b, h1, h2, h3, h4⟩ := ih
    obtain ⟨k, hk, hok⟩ := (hs l).mp hm
    obtain ⟨q1, q2⟩ := c.at_ k l hk
    have e : k = b := nd_at c.nd q1 h2
    subst e
    refine ⟨k + 1, by omega, q2, ?_, fun j j1 j2 => ?_⟩
    · rw [take_snoc h1 (by rw [List.getElem?_map, hk]; rfl), h3]
    · by_cases e : j = k
      · subst e; exact hok
      · exact h4 j j1 (by omega)
theorem chain_way {p : List Str} {ls steps : List Lv} (c : Chain p ls) {ok : Nat → Prop} (hs : ∀ l, l ∈ steps ↔ ∃ k, ls[k]? = some l ∧ ok k) {a : Nat} {za : Str} (ha : p[a]? = some za) : ∀ (m : Nat) {zb : Str}, p[a + m]? = some zb → (∀ k, a ≤ k → k < a + m → ok k) → Way steps za zb (((ls.map Lv.num).drop a).take m)
  | 0, zb, hb, _ => by
    have : za = zb := by rw [Nat.add_zero, ha] at hb; exact Option.some.inj hb
    subst this
    simp only [List.take_zero]
    exact .nil
  | m + 1, zb, hb, h => by
    have hlt := (List.getElem?_eq_some_iff.mp hb).1
    have hlen := c.len
    obtain ⟨l, hl⟩ : ∃ l, ls[a + m]? = some l := ⟨ls[a + m]'(by omega), List.getElem?_eq_getElem _⟩
    obtain ⟨q1, q2⟩ := c.at_ _ l hl
    have w := chain_way c hs ha m q1 fun k h1 h2 => h k h1 (by omega)
    have e : l.taker = zb := by
      have : p[a + (m + 1)]? = some l.taker := q2
      rw [hb] at this
      exact (Option.some.inj this).symm
    rw [List.take_succ, List.getElem?_drop, List.getElem?_map, hl, ← e]
    exact .snoc w ((hs l).mpr ⟨_, hl, h _ (by omega) (by omega)⟩)
/-- what the going tells of a chain -/
theorem chain_row {p : List Str} {ls steps : List Lv} (c : Chain p ls) {ok : Nat → Prop} (hs : ∀ l, l ∈ steps ↔ ∃ k, ls[k]? = some l ∧ ok k) (hup : steps.Pairwise fun a b => a.num < b.num) {a b : Nat} {za zb : Str} (ha : p[a]? = some za) (hb : p[b]? = some zb) {n : Nat} (hw : (turns steps n ⟨[(za, [])], [za]⟩).wait = []) :
    (a ≤ b ∧ (∀ k, a ≤ k → k < b → ok k) → rowAt (turns steps n ⟨[(za, [])], [za]⟩).found zb = some (((ls.map Lv.num).drop a).take (b - a))) ∧ (¬ (a ≤ b ∧ ∀ k, a ≤ k → k < b → ok k) → rowAt (turns steps n ⟨[(za, [])], [za]⟩).found zb = none) := by
  have h := turns_best hup hw zb
  generalize rowAt (turns steps n ⟨[(za, [])], [za]⟩).found zb = ro at h
  have back : ∀ r, Way steps za zb r → a ≤ b ∧ (∀ k, a ≤ k → k < b → ok k) ∧ r = ((ls.map Lv.num).drop a).take (b - a) := fun r w => by
    obtain ⟨b', h1, h2, h3, h4⟩ := chain_to c hs ha w
    have e : b' = b := nd_at c.nd h2 hb
    subst e
    exact ⟨h1, h4, h3⟩
  constructor
  · rintro ⟨h1, h2⟩
    have w := chain_way c hs ha (b - a) (by rw [show a + (b - a) = b by omega]; exact hb) fun k k1 k2 => h2 k k1 (by omega)
    cases ro with
    | none => exact absurd w (h _)
    | some r => rw [(back r h.1.1).2.2]
  · intro hn
    cases ro with
    | none => rfl
    | some r => exact absurd ⟨(back r h.1.1).1, (back r h.1.1).2.1⟩ hn
end PL
set_option Elab.async false
set_option linter.all false
set_option autoImplicit false
set_option maxRecDepth 100000
set_option maxHeartbeats 0
namespace K14
open PySem PySem.Spec PyProof.Rows L2 PL
/-- _law_cell = _law_script[_ -/
def w__law_drawn_from_0 : DS := wAsg (wIfE (wT (w2 gLt (wVar 1) (wLenSc 0))) (wIxSc 0 (wVar 1)) (wC (.int 0))) (asgn 2)
/-- return [[0, abs(_law_cell -/
def w__law_drawn_from_1 : DS := wRet (wLst (wCons (w2 gIxA (wLst (wCons (wC (.int 0)) (wCons (wN (g1 gAbs) (wCons (wVar 2) (wNil))) (wNil)))) (wN (g1 gInt) (wCons (w2 gGe (wN (g1 gAbs) (wCons (wVar 2) (wNil))) (w2 gPow (wC (.int 10)) (wC (.int 18)))) (wNil)))) (wCons (w2 gAdd (wVar 2) (w2 gMul (wC (.int 1000003)) (wVar 1))) (wCons (wC (.int 0)) (wNil)))))
def w__law_drawn_from : DS := wSeq (w__law_drawn_from_0) (w__law_drawn_from_1)
/-- slots: 0 _law_script 1 _law_k 2 _law_cell -/
def g__law_drawn_from : DSp := gOfB [.sc, .fz] 1 w__law_drawn_from
/-- return (tuple(sorted(_law -/
def w__law_house_of_0 : DS := wRet (wTup (wCons (wN (g1 gTup1) (wCons (wSortIt (wVar 0)) (wNil))) (wCons (wTup (wNil)) (wCons (wN (g1 gTup1) (wCons (wVar 1) (wNil))) (wCons (wTup (wNil)) (wNil))))))
def w__law_house_of : DS := w__law_house_of_0
/-- slots: 0 _law_parts 1 _law_leaves -/
def g__law_house_of : DSp := gOfB [.fz, .fz] 0 w__law_house_of
/-- _law_found.append(_law_part) -/
def b__law_parts_over_1_0 : DS := wDrop (wMut isL gAppend (wVar 2) (wCons (wVar 1) (wNil)))
/-- _law_part = _law_parts[_law_part] -/
def b__law_parts_over_1_1 : DS := wAsg (w2 gIxA (wVar 0) (wVar 1)) (asgn 1)
def b__law_parts_over_1 : DS := wSeq (b__law_parts_over_1_0) (b__law_parts_over_1_1)
/-- _law_found = [] -/
def w__law_parts_over_0 : DS := wAsg (wLst (wNil)) (asgn 2)
/-- while _law_part in _law_p -/
def w__law_parts_over_1 : DS := wWhile (wT (w2 (gInA false) (wVar 1) (wVar 0))) (b__law_parts_over_1)
/-- return _law_found -/
def w__law_parts_over_2 : DS := wRet (wVar 2)
def w__law_parts_over : DS := wSeq (w__law_parts_over_0) (wSeq (w__law_parts_over_1) (w__law_parts_over_2))
/-- slots: 0 _law_parts 1 _law_part 2 _law_found -/
def g__law_parts_over : DSp := gOfB [.fz, .fz] 1 w__law_parts_over
/-- _law_m = (_law_cell % 214 -/
def w__law_mix_0 : DS := wAsg (w2 gMod (w2 gMul (w2 gAdd (w2 gAdd (w2 gMod (wVar 0) (wC (.int 2147483629))) (w2 gMul (w2 gMul (wVar 1) (wVar 1)) (wC (.int 7919)))) (wC (.int 11))) (wC (.int 48271))) (wC (.int 2147483647))) (asgn 2)
/-- return _law_m * _law_m %  -/
def w__law_mix_1 : DS := wRet (w2 gMod (w2 gMul (wVar 2) (wVar 2)) (wC (.int 1999999973)))
def w__law_mix : DS := wSeq (w__law_mix_0) (w__law_mix_1)
/-- slots: 0 _law_cell 1 _law_k 2 _law_m -/
def g__law_mix : DSp := gOfB [.fz, .fz] 1 w__law_mix
/-- _law_left[2] = _law_left[ -/
def w__law_pick_0 : DS := wAsg (w2 gAdd (w2 gIxA (wVar 0) (wC (.int 2))) (wC (.int 1))) (wGSub gSetL (wVar 0) (wC (.int 2)))
/-- if _law_left[0] > 0: -/
def w__law_pick_1 : DS := wIf (wT (w2 gGt (w2 gIxA (wVar 0) (wC (.int 0))) (wC (.int 0)))) (wSeq (wAsg (w2 gMod (w2 gIxA (wVar 0) (wC (.int 0))) (wVar 1)) (asgn 2)) (wSeq (wAsg (w2 gDiv (w2 gIxA (wVar 0) (wC (.int 0))) (wVar 1)) (wGSub gSetL (wVar 0) (wC (.int 0)))) (wRet (wVar 2)))) (wNext)
/-- return _law_mix(_law_mix( -/
def w__law_pick_2 : DS := wRet (w2 gMod (w2 gDiv (wCallR 2 g__law_mix (wCons (wCallR 2 g__law_mix (wCons (w2 gIxA (wVar 0) (wC (.int 1))) (wCons (w2 gIxA (wVar 0) (wC (.int 2))) (wNil)))) (wCons (w2 gAdd (w2 gIxA (wVar 0) (wC (.int 2))) (wC (.int 64))) (wNil)))) (wC (.int 64))) (wVar 1))
def w__law_pick : DS := wSeq (w__law_pick_0) (wSeq (w__law_pick_1) (w__law_pick_2))
/-- slots: 0 _law_left 1 _law_many 2 _law_digit -/
def g__law_pick : DSp := gOfB [.io, .fz] 1 w__law_pick
/-- _law_found.append(_law_last) -/
def b__law_rising_1_0 : DS := wDrop (wMut isL gAppend (wVar 2) (wCons (wVar 3) (wNil)))
/-- _law_last = _law_last + 1 + _law_pick(_l -/
def b__law_rising_1_1 : DS := wAsg (w2 gAdd (w2 gAdd (wVar 3) (wC (.int 1))) (w2 gMul (wCall [.io, .fz] g__law_pick (wCons (wVar 0) (wCons (wC (.int 2)) (wNil)))) (wCall [.io, .fz] g__law_pick (wCons (wVar 0) (wCons (wC (.int 3)) (wNil)))))) (asgn 3)
def b__law_rising_1 : DS := wSeq (b__law_rising_1_0) (b__law_rising_1_1)
/-- _law_found, _law_last = ( -/
def w__law_rising_0 : DS := wPar 2 3 (wCons (wLst (wNil)) (wCons (wCall [.io, .fz] g__law_pick (wCons (wVar 0) (wCons (wC (.int 3)) (wNil)))) (wNil)))
/-- for _law_k in range(_law_ -/
def w__law_rising_1 : DS := wFor (wRng1 (wCons (wVar 1) (wNil))) (asgn 4) (b__law_rising_1)
/-- return _law_found -/
def w__law_rising_2 : DS := wRet (wVar 2)
def w__law_rising : DS := wSeq (w__law_rising_0) (wSeq (w__law_rising_1) (w__law_rising_2))
/-- slots: 0 _law_left 1 _law_many 2 _law_found 3 _law_last 4 _law_k -/
def g__law_rising : DSp := gOfB [.io, .fz] 3 w__law_rising
/-- if isinstance(_law_due, ( -/
def w__law_same_0 (gr : DSp) : DS := wIf (wTru (wIsi2 "list" "tuple" (wVar 1))) (wSeq (wIf (wOrT (wT (w2 gNe (wIsi "list" (wVar 0)) (wIsi "list" (wVar 1)))) (wT (w2 gNe (wIsi "tuple" (wVar 0)) (wIsi "tuple" (wVar 1))))) (wRet (wC (.bool false))) (wNext)) (wRet (wAndV (w2 gEq (wN (g1 gLenA) (wCons (wVar 0) (wNil))) (wN (g1 gLenA) (wCons (wVar 1) (wNil)))) (wN (g1 gAll) (wCons (wLc (wIc (wZip (wCons (wVar 0) (wCons (wVar 1) (wNil))))) (wGTup 2 (wGCons (asgn 2) (wGCons (asgn 3) (wGNil)))) (wYes) (wCallR 2 gr (wCons (wVar 2) (wCons (wVar 3) (wNil)))) [2, 3]) (wNil)))))) (wNext)
/-- if _law_due is None or is -/
def w__law_same_1 (gr : DSp) : DS := wIf (wOrT (wT (w2 (gIs false) (wVar 1) (wC .none))) (wTru (wIsi "str" (wVar 1)))) (wRet (wAndV (w2 gEq (wVar 0) (wVar 1)) (w2 gEq (wIsi "str" (wVar 0)) (wIsi "str" (wVar 1))))) (wNext)
/-- if isinstance(_law_due, b -/
def w__law_same_2 (gr : DSp) : DS := wIf (wTru (wIsi "bool" (wVar 1))) (wRet (wAndV (wIsi "bool" (wVar 0)) (w2 gEq (wVar 0) (wVar 1)))) (wNext)
/-- return isinstance(_law_fo -/
def w__law_same_3 (gr : DSp) : DS := wRet (wAndV (wIsi "int" (wVar 0)) (wAndV (wNotV (wIsi "bool" (wVar 0))) (w2 gEq (wVar 0) (wVar 1))))
def w__law_same (gr : DSp) : DS := wSeq (w__law_same_0 gr) (wSeq (w__law_same_1 gr) (wSeq (w__law_same_2 gr) (w__law_same_3 gr)))
/-- slots: 0 _law_found 1 _law_due 2 _law_one 3 _law_other -/
def g__law_same : Nat → DSp
  | 0 => fun _ _ => False
  | n + 1 => gOfB [.fz, .fz] 2 (w__law_same (g__law_same n))
def b__law_shuffled_1 : DS := wDrop (wMut isL gAppend (wVar 3) (wCons (wMut isL gPopAt (wVar 2) (wCons (wCall [.io, .fz] g__law_pick (wCons (wVar 0) (wCons (wN (g1 gLenA) (wCons (wVar 2) (wNil))) (wNil)))) (wNil))) (wNil)))
/-- _law_rest, _law_found = ( -/
def w__law_shuffled_0 : DS := wPar 2 3 (wCons (wN (g1 gLst3) (wCons (wVar 1) (wNil))) (wCons (wLst (wNil)) (wNil)))
/-- while _law_rest != []: -/
def w__law_shuffled_1 : DS := wWhile (wT (w2 gNe (wVar 2) (wLst (wNil)))) (b__law_shuffled_1)
/-- return _law_found -/
def w__law_shuffled_2 : DS := wRet (wVar 3)
def w__law_shuffled : DS := wSeq (w__law_shuffled_0) (wSeq (w__law_shuffled_1) (w__law_shuffled_2))
/-- slots: 0 _law_left 1 _law_things 2 _law_rest 3 _law_found -/
def g__law_shuffled : DSp := gOfB [.io, .fz] 2 w__law_shuffled
def b__law_some_names_1 : DS := wDrop (wMut isL gExtend (wVar 10) (wCons (wLc (wIc (wRng1 (wCons (w2 gSub (wC (.int 9)) (wVar 8)) (wNil)))) (asgn 11) (wYes) (wSl gSl (wVar 9) (wPart (wVar 11)) (wPart (w2 gAdd (wVar 11) (wVar 8)))) [11]) (wNil)))
/-- _law_value = (_law_first + _law_by * _la -/
def b__law_some_names_2_0 : DS := wAsg (w2 gMod (w2 gAdd (wVar 6) (w2 gMul (wVar 7) (wVar 11))) (wC (.int 676))) (asgn 12)
/-- _law_two = _law_letters[_law_value // 26 -/
def b__law_some_names_2_1 : DS := wAsg (w2 gAdd (w2 gIxA (wVar 2) (w2 gDiv (wVar 12) (wC (.int 26)))) (w2 gIxA (wVar 2) (w2 gMod (wVar 12) (wC (.int 26))))) (asgn 13)
/-- _law_found.append(_law_head + _law_two + -/
def b__law_some_names_2_2 : DS := wDrop (wMut isL gAppend (wVar 10) (wCons (w2 gAdd (w2 gAdd (wVar 3) (wVar 13)) (wSl gSl (wVar 5) (wNoPart) (wPart (w2 gMod (w2 gAdd (w2 gMul (wVar 11) (wVar 11)) (wVar 6)) (wC (.int 4)))))) (wNil)))
def b__law_some_names_2 : DS := wSeq (b__law_some_names_2_0) (wSeq (b__law_some_names_2_1) (b__law_some_names_2_2))
/-- _law_letters = 'abcdefghi -/
def w__law_some_names_0 : DS := wAsg (wC (.str (PySem.Str.ofString "abcdefghijklmnopqrstuvwxyz"))) (asgn 2)
/-- _law_head = ''.join([_law -/
def w__law_some_names_1 : DS := wAsg (wM isS gJoin (wC (.str (PySem.Str.ofString ""))) (wCons (wLc (wIc (wRng1 (wCons (wCall [.io, .fz] g__law_pick (wCons (wVar 0) (wCons (wC (.int 4)) (wNil)))) (wNil)))) (asgn 4) (wYes) (w2 gIxA (wVar 2) (wCall [.io, .fz] g__law_pick (wCons (wVar 0) (wCons (wC (.int 26)) (wNil))))) [4]) (wNil))) (asgn 3)
/-- _law_tail = ''.join([_law -/
def w__law_some_names_2 : DS := wAsg (wM isS gJoin (wC (.str (PySem.Str.ofString ""))) (wCons (wLc (wIc (wRng1 (wCons (wCall [.io, .fz] g__law_pick (wCons (wVar 0) (wCons (wC (.int 4)) (wNil)))) (wNil)))) (asgn 4) (wYes) (w2 gIxA (wVar 2) (wCall [.io, .fz] g__law_pick (wCons (wVar 0) (wCons (wC (.int 26)) (wNil))))) [4]) (wNil))) (asgn 5)
/-- _law_first, _law_by = (_l -/
def w__law_some_names_3 : DS := wParN [6, 7] (wCons (wCall [.io, .fz] g__law_pick (wCons (wVar 0) (wCons (wC (.int 676)) (wNil)))) (wCons (w2 gIxA (wLst (wCons (wC (.int 1)) (wCons (wC (.int 3)) (wCons (wC (.int 5)) (wCons (wC (.int 7)) (wCons (wC (.int 25)) (wCons (wC (.int 675)) (wNil)))))))) (wCall [.io, .fz] g__law_pick (wCons (wVar 0) (wCons (wC (.int 6)) (wNil))))) (wNil)))
/-- if _law_pick(_law_left, 4 -/
def w__law_some_names_4 : DS := wIf (wT (w2 gEq (wCall [.io, .fz] g__law_pick (wCons (wVar 0) (wCons (wC (.int 4)) (wNil)))) (wC (.int 0)))) (wSeq (wParN [9, 10] (wCons (wM isS gJoin (wC (.str (PySem.Str.ofString ""))) (wCons (wLc (wIc (wRng1 (wCons (wC (.int 8)) (wNil)))) (asgn 11) (wYes) (w2 gIxA (wVar 2) (w2 gMod (w2 gAdd (wVar 6) (w2 gMul (wC (.int 5)) (wVar 11))) (wC (.int 26)))) [11]) (wNil))) (wCons (wLst (wNil)) (wNil)))) (wSeq (wFor (wRng2 (wCons (wC (.int 1)) (wCons (wC (.int 9)) (wNil)))) (asgn 8) (b__law_some_names_1)) (wRet (wSl gSl (wVar 10) (wNoPart) (wPart (wVar 1)))))) (wNext)
/-- if _law_many < 27 and _la -/
def w__law_some_names_5 : DS := wIf (wAndT (wT (w2 gLt (wVar 1) (wC (.int 27)))) (wT (w2 gEq (wCall [.io, .fz] g__law_pick (wCons (wVar 0) (wCons (wC (.int 3)) (wNil)))) (wC (.int 0))))) (wRet (wLc (wIc (wRng1 (wCons (wVar 1) (wNil)))) (asgn 11) (wYes) (w2 gIxA (wVar 2) (w2 gMod (w2 gAdd (wVar 6) (w2 gMul (wVar 7) (wVar 11))) (wC (.int 26)))) [11])) (wNext)
/-- _law_found = [] -/
def w__law_some_names_6 : DS := wAsg (wLst (wNil)) (asgn 10)
/-- for _law_k in range(_law_ -/
def w__law_some_names_7 : DS := wFor (wRng1 (wCons (wVar 1) (wNil))) (asgn 11) (b__law_some_names_2)
/-- return _law_found -/
def w__law_some_names_8 : DS := wRet (wVar 10)
def w__law_some_names : DS := wSeq (w__law_some_names_0) (wSeq (w__law_some_names_1) (wSeq (w__law_some_names_2) (wSeq (w__law_some_names_3) (wSeq (w__law_some_names_4) (wSeq (w__law_some_names_5) (wSeq (w__law_some_names_6) (wSeq (w__law_some_names_7) (w__law_some_names_8))))))))
/-- slots: 0 _law_left 1 _law_many 2 _law_letters 3 _law_head 4 _law_turn 5 _law_tail 6 _law_first 7 _law_by 8 _law_size 9 _law_stem 10 _law_found 11 _law_k 12 _law_value 13 _law_two -/
def g__law_some_names : DSp := gOfB [.io, .fz] 12 w__law_some_names
def b__law_some_parts_1 : DS := wAsg (w2 gIxA (w2 gAdd (wLst (wCons (wC (.str (PySem.Str.ofString ""))) (wNil))) (wSl gSl (wVar 1) (wNoPart) (wPart (wVar 3)))) (wIfE (wT (w2 gGt (wCall [.io, .fz] g__law_pick (wCons (wVar 0) (wCons (wC (.int 4)) (wNil)))) (wC (.int 0)))) (wCall [.io, .fz] g__law_pick (wCons (wVar 0) (wCons (w2 gAdd (wVar 3) (wC (.int 1))) (wNil)))) (wC (.int 0)))) (wGSub gSetD (wVar 2) (wVar 4))
/-- _law_found = {} -/
def w__law_some_parts_0 : DS := wAsg (wNewK) (asgn 2)
/-- for _law_k, _law_name in  -/
def w__law_some_parts_1 : DS := wFor (wEnum (wCons (wVar 1) (wNil))) (wGTup 2 (wGCons (asgn 3) (wGCons (asgn 4) (wGNil)))) (b__law_some_parts_1)
/-- return _law_found -/
def w__law_some_parts_2 : DS := wRet (wVar 2)
def w__law_some_parts : DS := wSeq (w__law_some_parts_0) (wSeq (w__law_some_parts_1) (w__law_some_parts_2))
/-- slots: 0 _law_left 1 _law_names 2 _law_found 3 _law_k 4 _law_name -/
def g__law_some_parts : DSp := gOfB [.io, .fz] 3 w__law_some_parts
/-- found.append(part) -/
def b_parts_over_1_0 : DS := wDrop (wMut isL gAppend (wVar 3) (wCons (wVar 1) (wNil)))
/-- part = within[part] -/
def b_parts_over_1_1 : DS := wAsg (w2 gIxA (wVar 2) (wVar 1)) (asgn 1)
def b_parts_over_1 : DS := wSeq (b_parts_over_1_0) (b_parts_over_1_1)
/-- within = dict(house[0]) -/
def w_parts_over_0 : DS := wAsg (wN (g1 gDict1) (wCons (w2 gIxA (wVar 0) (wC (.int 0))) (wNil))) (asgn 2)
/-- found = [] -/
def w_parts_over_1 : DS := wAsg (wLst (wNil)) (asgn 3)
/-- while part in within: -/
def w_parts_over_2 : DS := wWhile (wT (w2 (gInA false) (wVar 1) (wVar 2))) (b_parts_over_1)
/-- return found -/
def w_parts_over_3 : DS := wRet (wVar 3)
def w_parts_over : DS := wSeq (w_parts_over_0) (wSeq (w_parts_over_1) (wSeq (w_parts_over_2) (w_parts_over_3)))
/-- slots: 0 house 1 part 2 within 3 found -/
def g_parts_over : DSp := gOfB [.fz, .fz] 2 w_parts_over
/-- number, giver, taker, par -/
def w_lets_0 : DS := wAsg (wVar 2) (wGTup 7 (wGCons (asgn 4) (wGCons (asgn 5) (wGCons (asgn 6) (wGCons (asgn 7) (wGCons (asgn 8) (wGCons (asgn 9) (wGCons (asgn 10) (wGNil)))))))))
/-- return part in parts_over -/
def w_lets_1 : DS := wRet (wAndV (w2 (gInA false) (wVar 7) (wCall [.fz, .fz] g_parts_over (wCons (wVar 0) (wCons (w2 gIxA (wVar 1) (wC (.int 0))) (wNil))))) (wAndV (wChain gLe gLe (wVar 8) (wVar 3) (wVar 9)) (w2 gLe (w2 gIxA (wVar 1) (wC (.int 1))) (wVar 10))))
def w_lets : DS := wSeq (w_lets_0) (w_lets_1)
/-- slots: 0 house 1 paper 2 leave 3 day 4 number 5 giver 6 taker 7 part 8 first 9 last 10 most -/
def g_lets : DSp := gOfB [.fz, .fz, .fz, .fz] 7 w_lets
/-- sides = paper[2:] -/
def w_steps_on_0 : DS := wAsg (wSl gSl (wVar 1) (wPart (wC (.int 2))) (wNoPart)) (asgn 3)
/-- some = [leave for leave i -/
def w_steps_on_1 : DS := wAsg (wLc (wIc (wIt (w2 gIxA (wVar 0) (wC (.int 2))))) (asgn 5) (wAndT (wT (w2 (gInA true) (w2 gIxA (wVar 5) (wC (.int 1))) (wVar 3))) (wT (w2 (gInA true) (w2 gIxA (wVar 5) (wC (.int 2))) (wVar 3)))) (wVar 5) [5]) (asgn 4)
/-- return [leave for leave i -/
def w_steps_on_2 : DS := wRet (wLc (wIc (wIt (wVar 4))) (asgn 5) (wTru (wCallR 4 g_lets (wCons (wVar 0) (wCons (wVar 1) (wCons (wVar 5) (wCons (wVar 2) (wNil))))))) (wVar 5) [5])
def w_steps_on : DS := wSeq (w_steps_on_0) (wSeq (w_steps_on_1) (w_steps_on_2))
/-- slots: 0 house 1 paper 2 day 3 sides 4 some 5 leave -/
def g_steps_on : DSp := gOfB [.fz, .fz, .fz] 3 w_steps_on
def b_rows_from_1 : DS := wIf (wAndT (wT (w2 gEq (w2 gIxA (wVar 8) (wC (.int 1))) (wVar 7))) (wT (w2 (gInA true) (w2 gIxA (wVar 8) (wC (.int 2))) (wVar 5)))) (wSeq (wAsg (w2 gAdd (w2 gIxA (wVar 5) (wVar 7)) (wLst (wCons (w2 gIxA (wVar 8) (wC (.int 0))) (wNil)))) (wGSub gSetD (wVar 5) (w2 gIxA (wVar 8) (wC (.int 2))))) (wDrop (wMut isL gAppend (wVar 6) (wCons (w2 gIxA (wVar 8) (wC (.int 2))) (wNil))))) (wNext)
/-- here = waiting.pop(0) -/
def b_rows_from_2_0 : DS := wAsg (wMut isL gPopAt (wVar 6) (wCons (wC (.int 0)) (wNil))) (asgn 7)
/-- for leave in steps: -/
def b_rows_from_2_1 : DS := wFor (wIt (wVar 4)) (asgn 8) (b_rows_from_1)
def b_rows_from_2 : DS := wSeq (b_rows_from_2_0) (b_rows_from_2_1)
/-- if holder in paper[2:]: -/
def w_rows_from_0 : DS := wIf (wT (w2 (gInA false) (wVar 2) (wSl gSl (wVar 1) (wPart (wC (.int 2))) (wNoPart)))) (wRet (wNewK)) (wNext)
/-- steps = steps_on(house, p -/
def w_rows_from_1 : DS := wAsg (wCall [.fz, .fz, .fz] g_steps_on (wCons (wVar 0) (wCons (wVar 1) (wCons (wVar 3) (wNil))))) (asgn 4)
/-- found = {holder: []} -/
def w_rows_from_2 : DS := wAsg (wDisp1 (wVar 2) (wLst (wNil))) (asgn 5)
/-- waiting = [holder] -/
def w_rows_from_3 : DS := wAsg (wLst (wCons (wVar 2) (wNil))) (asgn 6)
/-- while waiting != []: -/
def w_rows_from_4 : DS := wWhile (wT (w2 gNe (wVar 6) (wLst (wNil)))) (b_rows_from_2)
/-- return found -/
def w_rows_from_5 : DS := wRet (wVar 5)
def w_rows_from : DS := wSeq (w_rows_from_0) (wSeq (w_rows_from_1) (wSeq (w_rows_from_2) (wSeq (w_rows_from_3) (wSeq (w_rows_from_4) (w_rows_from_5)))))
/-- slots: 0 house 1 paper 2 holder 3 day 4 steps 5 found 6 waiting 7 here 8 leave -/
def g_rows_from : DSp := gOfB [.fz, .fz, .fz, .fz] 5 w_rows_from
/-- return rows_from(house, p -/
def w_row_of_0 : DS := wRet (wGet1 (wCall [.fz, .fz, .fz, .fz] g_rows_from (wCons (wVar 0) (wCons (wVar 1) (wCons (wVar 2) (wCons (wVar 4) (wNil)))))) (wVar 3))
def w_row_of : DS := w_row_of_0
/-- slots: 0 house 1 paper 2 holder 3 signer 4 day -/
def g_row_of : DSp := gOfB [.fz, .fz, .fz, .fz, .fz] 0 w_row_of
/-- _law_some = _law_parts_over(_law_parts,  -/
def b__law_row_right_1_0 : DS := wAsg (wCall [.fz, .fz] g__law_parts_over (wCons (wVar 3) (wCons (w2 gIxA (wVar 6) (wC (.int 0))) (wNil)))) (asgn 12)
/-- _law_leave = [_law_some[_law_pick(_law_l -/
def b__law_row_right_1_1 : DS := wAsg (wLst (wCons (w2 gIxA (wVar 12) (wCall [.io, .fz] g__law_pick (wCons (wVar 0) (wCons (wN (g1 gLenA) (wCons (wVar 12) (wNil))) (wNil))))) (wCons (w2 gSub (wVar 7) (wCall [.io, .fz] g__law_pick (wCons (wVar 0) (wCons (wC (.int 3)) (wNil))))) (wCons (w2 gAdd (wVar 7) (wCall [.io, .fz] g__law_pick (wCons (wVar 0) (wCons (wC (.int 3)) (wNil))))) (wCons (wC (.int 70)) (wNil)))))) (asgn 13)
/-- if _law_k == _law_gap: -/
def b__law_row_right_1_2 : DS := wIf (wT (w2 gEq (wVar 11) (wVar 10))) (wSeq (wAsg (wCall [.io, .fz] g__law_pick (wCons (wVar 0) (wCons (wC (.int 3)) (wNil)))) (asgn 14)) (wAsg (w2 gIxA (wLst (wCons (wLst (wCons (w2 gIxA (wVar 13) (wC (.int 0))) (wCons (w2 gAdd (wVar 7) (wC (.int 1))) (wCons (w2 gAdd (wVar 7) (wC (.int 9))) (wCons (wC (.int 70)) (wNil)))))) (wCons (wLst (wCons (w2 gIxA (wVar 13) (wC (.int 0))) (wCons (wC (.int 0)) (wCons (w2 gSub (wVar 7) (wC (.int 1))) (wCons (wC (.int 70)) (wNil)))))) (wCons (wLst (wCons (w2 gIxA (wVar 13) (wC (.int 0))) (wCons (wC (.int 0)) (wCons (wC (.int 99999)) (wCons (wC (.int 69)) (wNil)))))) (wNil))))) (wVar 14)) (asgn 13))) (wNext)
/-- _law_leaves.append((_law_numbers[_law_k] -/
def b__law_row_right_1_3 : DS := wDrop (wMut isL gAppend (wVar 9) (wCons (w2 gAdd (wTup (wCons (w2 gIxA (wVar 8) (wVar 11)) (wCons (w2 gIxA (wVar 4) (wVar 11)) (wCons (w2 gIxA (wVar 4) (w2 gAdd (wVar 11) (wC (.int 1)))) (wNil))))) (wN (g1 gTup1) (wCons (wVar 13) (wNil)))) (wNil)))
def b__law_row_right_1 : DS := wSeq (b__law_row_right_1_0) (wSeq (b__law_row_right_1_1) (wSeq (b__law_row_right_1_2) (b__law_row_right_1_3)))
/-- _law_at, _law_to = (_law_pick(_law_left, -/
def b__law_row_right_2_0 : DS := wPar 14 18 (wCons (wCall [.io, .fz] g__law_pick (wCons (wVar 0) (wCons (wVar 2) (wNil)))) (wCons (wCall [.io, .fz] g__law_pick (wCons (wVar 0) (wCons (wVar 2) (wNil)))) (wNil)))
/-- _law_due = _law_numbers[_law_at:_law_to] -/
def b__law_row_right_2_1 : DS := wAsg (wIfE (wAndT (wT (w2 gLe (wVar 14) (wVar 18))) (wNotT (wT (wChain gLe gLt (wVar 14) (wVar 10) (wVar 18))))) (wSl gSl (wVar 8) (wPart (wVar 14)) (wPart (wVar 18))) (wC .none)) (asgn 17)
/-- if not _law_same(row_of(_law_house, _law -/
def b__law_row_right_2_2 : DS := wIf (wNotT (wTru (wCallR 2 (g__law_same 12) (wCons (wCall [.fz, .fz, .fz, .fz, .fz] g_row_of (wCons (wVar 15) (wCons (wVar 6) (wCons (w2 gIxA (wVar 4) (wVar 14)) (wCons (w2 gIxA (wVar 4) (wVar 18)) (wCons (wVar 7) (wNil))))))) (wCons (wVar 17) (wNil)))))) (wRet (wC (.bool false))) (wNext)
def b__law_row_right_2 : DS := wSeq (b__law_row_right_2_0) (wSeq (b__law_row_right_2_1) (b__law_row_right_2_2))
/-- _law_names, _law_many = ( -/
def w__law_row_right_0 : DS := wPar 1 2 (wCons (wCall [.io, .fz] g__law_some_names (wCons (wVar 0) (wCons (wC (.int 30)) (wNil)))) (wCons (w2 gAdd (wC (.int 2)) (wCall [.io, .fz] g__law_pick (wCons (wVar 0) (wCons (wC (.int 16)) (wNil))))) (wNil)))
/-- _law_parts = _law_some_pa -/
def w__law_row_right_1 : DS := wAsg (wCall [.io, .fz] g__law_some_parts (wCons (wVar 0) (wCons (wSl gSl (wVar 1) (wNoPart) (wPart (w2 gAdd (wC (.int 1)) (wCall [.io, .fz] g__law_pick (wCons (wVar 0) (wCons (wC (.int 8)) (wNil))))))) (wNil)))) (asgn 3)
/-- _law_people, _law_over =  -/
def w__law_row_right_2 : DS := wPar 4 5 (wCons (wSl gSl (wVar 1) (wPart (wC (.int 9))) (wPart (w2 gAdd (wC (.int 9)) (wVar 2)))) (wCons (w2 gIxA (wVar 1) (wCall [.io, .fz] g__law_pick (wCons (wVar 0) (wCons (wN (g1 gLenA) (wCons (wVar 3) (wNil))) (wNil))))) (wNil)))
/-- _law_paper, _law_day = (( -/
def w__law_row_right_3 : DS := wPar 6 7 (wCons (wTup (wCons (wVar 5) (wCons (wC (.int 70)) (wCons (w2 gIxA (wVar 1) (wC (.int 27))) (wCons (w2 gIxA (wVar 1) (wC (.int 28))) (wNil)))))) (wCons (w2 gAdd (wC (.int 5)) (wCall [.io, .fz] g__law_pick (wCons (wVar 0) (wCons (wC (.int 5)) (wNil))))) (wNil)))
/-- _law_numbers, _law_leaves -/
def w__law_row_right_4 : DS := wPar3 8 9 10 (wCons (wCall [.io, .fz] g__law_shuffled (wCons (wVar 0) (wCons (wCall [.io, .fz] g__law_rising (wCons (wVar 0) (wCons (w2 gSub (wVar 2) (wC (.int 1))) (wNil)))) (wNil)))) (wCons (wLst (wNil)) (wCons (wVar 2) (wNil))))
/-- if _law_pick(_law_left, 2 -/
def w__law_row_right_5 : DS := wIf (wT (w2 gEq (wCall [.io, .fz] g__law_pick (wCons (wVar 0) (wCons (wC (.int 2)) (wNil)))) (wC (.int 0)))) (wAsg (wCall [.io, .fz] g__law_pick (wCons (wVar 0) (wCons (w2 gSub (wVar 2) (wC (.int 1))) (wNil)))) (asgn 10)) (wNext)
/-- for _law_k in range(_law_ -/
def w__law_row_right_6 : DS := wFor (wRng1 (wCons (w2 gSub (wVar 2) (wC (.int 1))) (wNil))) (asgn 11) (b__law_row_right_1)
/-- _law_house = _law_house_o -/
def w__law_row_right_7 : DS := wAsg (wCall [.fz, .fz] g__law_house_of (wCons (wVar 3) (wCons (wN (g1 gSort) (wCons (wVar 9) (wNil))) (wNil)))) (asgn 15)
/-- for _law_turn in range(12 -/
def w__law_row_right_8 : DS := wFor (wRng1 (wCons (wC (.int 12)) (wNil))) (asgn 16) (b__law_row_right_2)
/-- if not _law_same(row_of(_ -/
def w__law_row_right_9 : DS := wIf (wNotT (wTru (wCallR 2 (g__law_same 12) (wCons (wCall [.fz, .fz, .fz, .fz, .fz] g_row_of (wCons (wVar 15) (wCons (wVar 6) (wCons (w2 gIxA (wVar 1) (wC (.int 29))) (wCons (w2 gIxA (wVar 1) (wC (.int 29))) (wCons (wVar 7) (wNil))))))) (wCons (wLst (wNil)) (wNil)))))) (wRet (wC (.bool false))) (wNext)
/-- if row_of(_law_house, _la -/
def w__law_row_right_10 : DS := wIf (wT (w2 (gIs true) (wCall [.fz, .fz, .fz, .fz, .fz] g_row_of (wCons (wVar 15) (wCons (wVar 6) (wCons (w2 gIxA (wVar 1) (wC (.int 29))) (wCons (w2 gIxA (wVar 4) (wC (.int 0))) (wCons (wVar 7) (wNil))))))) (wC .none))) (wRet (wC (.bool false))) (wNext)
/-- return row_of(_law_house, -/
def w__law_row_right_11 : DS := wRet (w2 (gIs false) (wCall [.fz, .fz, .fz, .fz, .fz] g_row_of (wCons (wVar 15) (wCons (wVar 6) (wCons (w2 gIxA (wVar 4) (wC (.int 0))) (wCons (w2 gIxA (wVar 1) (wC (.int 29))) (wCons (wVar 7) (wNil))))))) (wC .none))
def w__law_row_right : DS := wSeq (w__law_row_right_0) (wSeq (w__law_row_right_1) (wSeq (w__law_row_right_2) (wSeq (w__law_row_right_3) (wSeq (w__law_row_right_4) (wSeq (w__law_row_right_5) (wSeq (w__law_row_right_6) (wSeq (w__law_row_right_7) (wSeq (w__law_row_right_8) (wSeq (w__law_row_right_9) (wSeq (w__law_row_right_10) (w__law_row_right_11)))))))))))
/-- slots: 0 _law_left 1 _law_names 2 _law_many 3 _law_parts 4 _law_people 5 _law_over 6 _law_paper 7 _law_day 8 _law_numbers 9 _law_leaves 10 _law_gap 11 _law_k 12 _law_some 13 _law_leave 14 _law_at 15 _law_house 16 _law_turn 17 _law_due 18 _law_to -/
def g__law_row_right : DSp := gOfB [.io] 18 w__law_row_right
/-- _law_left = _law_drawn_from(_law_script, -/
def b_law_1_0 : DS := wAsg (wCall [.sc, .fz] g__law_drawn_from (wCons (wVar 0) (wCons (wVar 1) (wNil)))) (asgn 2)
/-- if not _law_row_right(_law_left) or not  -/
def b_law_1_1 : DS := wIf (wOrT (wNotT (wTru (wCall [.io] g__law_row_right (wCons (wVar 2) (wNil))))) (wNotT (wTru (wCall [.io] g__law_row_right (wCons (wVar 2) (wNil)))))) (wRet (wC (.bool false))) (wNext)
def b_law_1 : DS := wSeq (b_law_1_0) (b_law_1_1)
/-- for _law_k in range(1 + m -/
def w_law_0 : DS := wFor (wRng1 (wCons (w2 gAdd (wC (.int 1)) (wN (g2 gMin2) (wCons (wC (.int 4)) (wCons (wLenSc 0) (wNil))))) (wNil))) (asgn 1) (b_law_1)
/-- return True -/
def w_law_1 : DS := wRet (wC (.bool true))
def w_law : DS := wSeq (w_law_0) (w_law_1)
/-- slots: 0 _law_script 1 _law_k 2 _law_left -/
def g_law : DSp := gOfB [.sc] 2 w_law
end K14
set_option Elab.async false
set_option linter.all false
set_option autoImplicit false
set_option maxRecDepth 100000
set_option maxHeartbeats 0
namespace K14
open PySem PySem.Spec PyProof.Rows L2 PL
/-! ### the text -/
def top (i : Nat) : Stmt := PySem.Challenge.pw_rankseals_k14_rows_of_many_leaves.main.body.getD i (.Pass ⟨0, 0, 0, 0⟩)
abbrev s__law_drawn_from : Stmt := top 9
abbrev s__law_house_of : Stmt := top 17
abbrev s__law_parts_over : Stmt := top 15
abbrev s__law_mix : Stmt := top 8
abbrev s__law_pick : Stmt := top 10
abbrev s__law_rising : Stmt := top 16
abbrev s__law_same : Stmt := top 11
abbrev s__law_shuffled : Stmt := top 13
abbrev s__law_some_names : Stmt := top 12
abbrev s__law_some_parts : Stmt := top 14
abbrev s_parts_over : Stmt := top 1
abbrev s_lets : Stmt := top 3
abbrev s_steps_on : Stmt := top 4
abbrev s_rows_from : Stmt := top 5
abbrev s_row_of : Stmt := top 6
abbrev s__law_row_right : Stmt := top 18
abbrev s_law : Stmt := top 19
abbrev FnP (K : PySem.W.Frag) (x : Str) (st : Stmt) (f : Addr) (fd : FuncData) : Prop := FunD K x x (defArgs st) (defBody st) (defScope st) [] [] f fd
structure Fx (K : PySem.W.Frag) (mg : Str → Option Value) where
  f__law_drawn_from : Addr
  d__law_drawn_from : FuncData
  F__law_drawn_from : FnP K (PySem.Str.ofString "_law_drawn_from") s__law_drawn_from f__law_drawn_from d__law_drawn_from
  g__law_drawn_from : mg (PySem.Str.ofString "_law_drawn_from") = some (.ref f__law_drawn_from)
  f__law_house_of : Addr
  d__law_house_of : FuncData
  F__law_house_of : FnP K (PySem.Str.ofString "_law_house_of") s__law_house_of f__law_house_of d__law_house_of
  g__law_house_of : mg (PySem.Str.ofString "_law_house_of") = some (.ref f__law_house_of)
  f__law_parts_over : Addr
  d__law_parts_over : FuncData
  F__law_parts_over : FnP K (PySem.Str.ofString "_law_parts_over") s__law_parts_over f__law_parts_over d__law_parts_over
  g__law_parts_over : mg (PySem.Str.ofString "_law_parts_over") = some (.ref f__law_parts_over)
  f__law_mix : Addr
  d__law_mix : FuncData
  F__law_mix : FnP K (PySem.Str.ofString "_law_mix") s__law_mix f__law_mix d__law_mix
  g__law_mix : mg (PySem.Str.ofString "_law_mix") = some (.ref f__law_mix)
  f__law_pick : Addr
  d__law_pick : FuncData
  F__law_pick : FnP K (PySem.Str.ofString "_law_pick") s__law_pick f__law_pick d__law_pick
  g__law_pick : mg (PySem.Str.ofString "_law_pick") = some (.ref f__law_pick)
  f__law_rising : Addr
  d__law_rising : FuncData
  F__law_rising : FnP K (PySem.Str.ofString "_law_rising") s__law_rising f__law_rising d__law_rising
  g__law_rising : mg (PySem.Str.ofString "_law_rising") = some (.ref f__law_rising)
  f__law_same : Addr
  d__law_same : FuncData
  F__law_same : FnP K (PySem.Str.ofString "_law_same") s__law_same f__law_same d__law_same
  g__law_same : mg (PySem.Str.ofString "_law_same") = some (.ref f__law_same)
  f__law_shuffled : Addr
  d__law_shuffled : FuncData
  F__law_shuffled : FnP K (PySem.Str.ofString "_law_shuffled") s__law_shuffled f__law_shuffled d__law_shuffled
  g__law_shuffled : mg (PySem.Str.ofString "_law_shuffled") = some (.ref f__law_shuffled)
  f__law_some_names : Addr
  d__law_some_names : FuncData
  F__law_some_names : FnP K (PySem.Str.ofString "_law_some_names") s__law_some_names f__law_some_names d__law_some_names
  g__law_some_names : mg (PySem.Str.ofString "_law_some_names") = some (.ref f__law_some_names)
  f__law_some_parts : Addr
  d__law_some_parts : FuncData
  F__law_some_parts : FnP K (PySem.Str.ofString "_law_some_parts") s__law_some_parts f__law_some_parts d__law_some_parts
  g__law_some_parts : mg (PySem.Str.ofString "_law_some_parts") = some (.ref f__law_some_parts)
  f_parts_over : Addr
  d_parts_over : FuncData
  F_parts_over : FnP K (PySem.Str.ofString "parts_over") s_parts_over f_parts_over d_parts_over
  g_parts_over : mg (PySem.Str.ofString "parts_over") = some (.ref f_parts_over)
  f_lets : Addr
  d_lets : FuncData
  F_lets : FnP K (PySem.Str.ofString "lets") s_lets f_lets d_lets
  g_lets : mg (PySem.Str.ofString "lets") = some (.ref f_lets)
  f_steps_on : Addr
  d_steps_on : FuncData
  F_steps_on : FnP K (PySem.Str.ofString "steps_on") s_steps_on f_steps_on d_steps_on
  g_steps_on : mg (PySem.Str.ofString "steps_on") = some (.ref f_steps_on)
  f_rows_from : Addr
  d_rows_from : FuncData
  F_rows_from : FnP K (PySem.Str.ofString "rows_from") s_rows_from f_rows_from d_rows_from
  g_rows_from : mg (PySem.Str.ofString "rows_from") = some (.ref f_rows_from)
  f_row_of : Addr
  d_row_of : FuncData
  F_row_of : FnP K (PySem.Str.ofString "row_of") s_row_of f_row_of d_row_of
  g_row_of : mg (PySem.Str.ofString "row_of") = some (.ref f_row_of)
  f__law_row_right : Addr
  d__law_row_right : FuncData
  F__law_row_right : FnP K (PySem.Str.ofString "_law_row_right") s__law_row_right f__law_row_right d__law_row_right
  g__law_row_right : mg (PySem.Str.ofString "_law_row_right") = some (.ref f__law_row_right)
  f_law : Addr
  d_law : FuncData
  F_law : FnP K (PySem.Str.ofString "law") s_law f_law d_law
  g_law : mg (PySem.Str.ofString "law") = some (.ref f_law)
  n_abs : mg (PySem.Str.ofString "abs") = none
  n_all : mg (PySem.Str.ofString "all") = none
  n_bool : mg (PySem.Str.ofString "bool") = none
  n_dict : mg (PySem.Str.ofString "dict") = none
  n_enumerate : mg (PySem.Str.ofString "enumerate") = none
  n_int : mg (PySem.Str.ofString "int") = none
  n_isinstance : mg (PySem.Str.ofString "isinstance") = none
  n_len : mg (PySem.Str.ofString "len") = none
  n_list : mg (PySem.Str.ofString "list") = none
  n_min : mg (PySem.Str.ofString "min") = none
  n_range : mg (PySem.Str.ofString "range") = none
  n_sorted : mg (PySem.Str.ofString "sorted") = none
  n_str : mg (PySem.Str.ofString "str") = none
  n_tuple : mg (PySem.Str.ofString "tuple") = none
  n_zip : mg (PySem.Str.ofString "zip") = none
section
variable {P : Program} {w : World} {K : PySem.W.Frag} {mg : Str → Option Value} {base : Heap}
theorem b__law_drawn_from (T : Fx K mg) : Binds K T.d__law_drawn_from [(PySem.Str.ofString "_law_script"), (PySem.Str.ofString "_law_k")] [] := T.F__law_drawn_from.bindsN fun _ _ _ _ _ _ us hl => match us, hl with | [_, _], _ => rfl
theorem sc__law_drawn_from : FnScope [(PySem.Str.ofString "_law_script"), (PySem.Str.ofString "_law_k"), (PySem.Str.ofString "_law_cell")] [(PySem.Str.ofString "_law_script"), (PySem.Str.ofString "_law_k")] (defScope s__law_drawn_from) := ⟨rfl, rfl, rfl, by decide +kernel, rfl, by decide +kernel, by decide +kernel⟩
theorem fss__law_drawn_from (T : Fx K mg) (cdv : Value) (Ar : Around) (out : List Env) (st : Shared) (H : Hp) (E : XK) (hG : (Ar.deeper (envOfC (PySem.Str.ofString "_law_drawn_from") (defScope s__law_drawn_from) st.heap.objs.size T.f__law_drawn_from cdv)).guards = some []) (rm : Room 0 (Ar.deeper (envOfC (PySem.Str.ofString "_law_drawn_from") (defScope s__law_drawn_from) st.heap.objs.size T.f__law_drawn_from cdv))) :
    FSs (cxOf CX0 P w K mg base [(PySem.Str.ofString "_law_script"), (PySem.Str.ofString "_law_k"), (PySem.Str.ofString "_law_cell")] (PySem.Str.ofString "_law_drawn_from") (defScope s__law_drawn_from) T.f__law_drawn_from cdv Ar out st H E).nox (defBody s__law_drawn_from) w__law_drawn_from :=
  fss_cons (fs_set (i := 2) (fe_if (ft_cmp op_ltA (g_cmp _ _) (fe_var (pv 1)) (fe_lenSc (pv 0) rfl T.n_len) (nomark _)) (fe_ixSc (pv 0) (fe_var (pv 1)) (fun _ _ => rfl)) (fe_int)) sc__law_drawn_from.nd rfl (Or.inl rfl)) (fss_one (fs_ret (fe_lst (fa_cons (fe_ix (ix_all (hu1 rm)) g_ixA (fe_lst (fa_cons (fe_int) (fa_cons (fe_callB (id := default) call_abs g_abs rfl T.n_abs (by decide +kernel) (fa_cons (fe_var (pv 2)) (fa_nil))) (fa_nil)))) (fe_callTy call_int1 g_int rfl T.n_int (by decide +kernel) (fa_cons (fe_cmp op_geA (g_cmp _ _) (fe_callB (id := default) call_abs g_abs rfl T.n_abs (by decide +kernel) (fa_cons (fe_var (pv 2)) (fa_nil))) (fe_op op_pow g_pow (fe_int) (fe_int)) (nomark _)) (fa_nil))) (fun _ _ => rfl)) (fa_cons (fe_op op_addAll g_add (fe_var (pv 2)) (fe_op op_mulAll g_mul (fe_int) (fe_var (pv 1)))) (fa_cons (fe_int) (fa_nil)))))))
theorem ok__law_drawn_from (T : Fx K mg) : FnG P w K mg base CX0 1 T.f__law_drawn_from T.d__law_drawn_from [(PySem.Str.ofString "_law_script"), (PySem.Str.ofString "_law_k")] (spOf K [.sc, .fz] g__law_drawn_from) :=
  FnG.of_data T.F__law_drawn_from sc__law_drawn_from rfl (fun cdv Ar out st H E hG rm => (fss__law_drawn_from T cdv Ar out st H E hG rm).nox) (fun _ _ _ q => q)
theorem gm__law_drawn_from (P : Program) (w : World) (base : Heap) (T : Fx K mg) : ∀ ds Q Q', (∀ r o, Q r o → Q' r o) → g__law_drawn_from ds Q → g__law_drawn_from ds Q' := fun ds Q Q' h q =>
  (fss__law_drawn_from (P := P) (w := w) (base := base) T .none callerA [] {} (fun _ => none) E0 rfl ((⟨rfl, by decide, by decide⟩ : Room 1 callerA).deeper _)).mono _ _ _ (ends_le h) q
theorem b__law_house_of (T : Fx K mg) : Binds K T.d__law_house_of [(PySem.Str.ofString "_law_parts"), (PySem.Str.ofString "_law_leaves")] [] := T.F__law_house_of.bindsN fun _ _ _ _ _ _ us hl => match us, hl with | [_, _], _ => rfl
theorem sc__law_house_of : FnScope [(PySem.Str.ofString "_law_parts"), (PySem.Str.ofString "_law_leaves")] [(PySem.Str.ofString "_law_parts"), (PySem.Str.ofString "_law_leaves")] (defScope s__law_house_of) := ⟨rfl, rfl, rfl, by decide +kernel, rfl, by decide +kernel, by decide +kernel⟩
theorem fss__law_house_of (T : Fx K mg) (cdv : Value) (Ar : Around) (out : List Env) (st : Shared) (H : Hp) (E : XK) (hG : (Ar.deeper (envOfC (PySem.Str.ofString "_law_house_of") (defScope s__law_house_of) st.heap.objs.size T.f__law_house_of cdv)).guards = some []) (rm : Room 0 (Ar.deeper (envOfC (PySem.Str.ofString "_law_house_of") (defScope s__law_house_of) st.heap.objs.size T.f__law_house_of cdv))) :
    FSs (cxOf CX0 P w K mg base [(PySem.Str.ofString "_law_parts"), (PySem.Str.ofString "_law_leaves")] (PySem.Str.ofString "_law_house_of") (defScope s__law_house_of) T.f__law_house_of cdv Ar out st H E).nox (defBody s__law_house_of) w__law_house_of :=
  fss_one (fs_ret (fe_tup (fa_cons (fe_callTy call_tupN g_tup1 rfl T.n_tuple (by decide +kernel) (fa_cons (fe_sortIt rfl (hu130 rm) rfl T.n_sorted (by decide +kernel) (fe_var (pv 0))) (fa_nil))) (fa_cons (fe_tup (fa_nil)) (fa_cons (fe_callTy call_tupN g_tup1 rfl T.n_tuple (by decide +kernel) (fa_cons (fe_var (pv 1)) (fa_nil))) (fa_cons (fe_tup (fa_nil)) (fa_nil)))))))
theorem ok__law_house_of (T : Fx K mg) : FnG P w K mg base CX0 1 T.f__law_house_of T.d__law_house_of [(PySem.Str.ofString "_law_parts"), (PySem.Str.ofString "_law_leaves")] (spOf K [.fz, .fz] g__law_house_of) :=
  FnG.of_data T.F__law_house_of sc__law_house_of rfl (fun cdv Ar out st H E hG rm => (fss__law_house_of T cdv Ar out st H E hG rm).nox) (fun _ _ _ q => q)
theorem gm__law_house_of (P : Program) (w : World) (base : Heap) (T : Fx K mg) : ∀ ds Q Q', (∀ r o, Q r o → Q' r o) → g__law_house_of ds Q → g__law_house_of ds Q' := fun ds Q Q' h q =>
  (fss__law_house_of (P := P) (w := w) (base := base) T .none callerA [] {} (fun _ => none) E0 rfl ((⟨rfl, by decide, by decide⟩ : Room 1 callerA).deeper _)).mono _ _ _ (ends_le h) q
theorem b__law_parts_over (T : Fx K mg) : Binds K T.d__law_parts_over [(PySem.Str.ofString "_law_parts"), (PySem.Str.ofString "_law_part")] [] := T.F__law_parts_over.bindsN fun _ _ _ _ _ _ us hl => match us, hl with | [_, _], _ => rfl
theorem sc__law_parts_over : FnScope [(PySem.Str.ofString "_law_parts"), (PySem.Str.ofString "_law_part"), (PySem.Str.ofString "_law_found")] [(PySem.Str.ofString "_law_parts"), (PySem.Str.ofString "_law_part")] (defScope s__law_parts_over) := ⟨rfl, rfl, rfl, by decide +kernel, rfl, by decide +kernel, by decide +kernel⟩
theorem fss__law_parts_over (T : Fx K mg) (cdv : Value) (Ar : Around) (out : List Env) (st : Shared) (H : Hp) (E : XK) (hG : (Ar.deeper (envOfC (PySem.Str.ofString "_law_parts_over") (defScope s__law_parts_over) st.heap.objs.size T.f__law_parts_over cdv)).guards = some []) (rm : Room 0 (Ar.deeper (envOfC (PySem.Str.ofString "_law_parts_over") (defScope s__law_parts_over) st.heap.objs.size T.f__law_parts_over cdv))) :
    FSs (cxOf CX0 P w K mg base [(PySem.Str.ofString "_law_parts"), (PySem.Str.ofString "_law_part"), (PySem.Str.ofString "_law_found")] (PySem.Str.ofString "_law_parts_over") (defScope s__law_parts_over) T.f__law_parts_over cdv Ar out st H E).nox (defBody s__law_parts_over) w__law_parts_over :=
  fss_cons (fs_set (i := 2) (fe_lst (fa_nil)) sc__law_parts_over.nd rfl (Or.inl rfl)) (fss_cons (fs_while PassesOwn.never (ft_cmp (op_inAA (hu1 rm)) (g_inA false) (fe_var (pv 1)) (fe_var (pv 0)) (by rfl)) (fss_cons (fs_expr (fe_mut PySem.F.plainAttrs_list PySem.F.slot_list_append PySem.F.type_list_append mt_append g_append (fe_var (pv 2)) (fa_cons (fe_var (pv 1)) (fa_nil)))) (fss_one (fs_set (i := 1) (fe_ix (ix_all (hu1 rm)) g_ixA (fe_var (pv 0)) (fe_var (pv 1)) (fun _ _ => rfl)) sc__law_parts_over.nd rfl (Or.inl rfl))))) (fss_one (fs_ret (fe_var (pv 2)))))
theorem ok__law_parts_over (T : Fx K mg) : FnG P w K mg base CX0 1 T.f__law_parts_over T.d__law_parts_over [(PySem.Str.ofString "_law_parts"), (PySem.Str.ofString "_law_part")] (spOf K [.fz, .fz] g__law_parts_over) :=
  FnG.of_data T.F__law_parts_over sc__law_parts_over rfl (fun cdv Ar out st H E hG rm => (fss__law_parts_over T cdv Ar out st H E hG rm).nox) (fun _ _ _ q => q)
theorem gm__law_parts_over (P : Program) (w : World) (base : Heap) (T : Fx K mg) : ∀ ds Q Q', (∀ r o, Q r o → Q' r o) → g__law_parts_over ds Q → g__law_parts_over ds Q' := fun ds Q Q' h q =>
  (fss__law_parts_over (P := P) (w := w) (base := base) T .none callerA [] {} (fun _ => none) E0 rfl ((⟨rfl, by decide, by decide⟩ : Room 1 callerA).deeper _)).mono _ _ _ (ends_le h) q
theorem b__law_mix (T : Fx K mg) : Binds K T.d__law_mix [(PySem.Str.ofString "_law_cell"), (PySem.Str.ofString "_law_k")] [] := T.F__law_mix.bindsN fun _ _ _ _ _ _ us hl => match us, hl with | [_, _], _ => rfl
theorem sc__law_mix : FnScope [(PySem.Str.ofString "_law_cell"), (PySem.Str.ofString "_law_k"), (PySem.Str.ofString "_law_m")] [(PySem.Str.ofString "_law_cell"), (PySem.Str.ofString "_law_k")] (defScope s__law_mix) := ⟨rfl, rfl, rfl, by decide +kernel, rfl, by decide +kernel, by decide +kernel⟩
theorem fss__law_mix (T : Fx K mg) (cdv : Value) (Ar : Around) (out : List Env) (st : Shared) (H : Hp) (E : XK) (hG : (Ar.deeper (envOfC (PySem.Str.ofString "_law_mix") (defScope s__law_mix) st.heap.objs.size T.f__law_mix cdv)).guards = some []) (rm : Room 0 (Ar.deeper (envOfC (PySem.Str.ofString "_law_mix") (defScope s__law_mix) st.heap.objs.size T.f__law_mix cdv))) :
    FSs (cxOf CX0 P w K mg base [(PySem.Str.ofString "_law_cell"), (PySem.Str.ofString "_law_k"), (PySem.Str.ofString "_law_m")] (PySem.Str.ofString "_law_mix") (defScope s__law_mix) T.f__law_mix cdv Ar out st H E).nox (defBody s__law_mix) w__law_mix :=
  fss_cons (fs_set (i := 2) (fe_op op_mod g_mod (fe_op op_mulAll g_mul (fe_op op_addAll g_add (fe_op op_addAll g_add (fe_op op_mod g_mod (fe_var (pv 0)) (fe_int)) (fe_op op_mulAll g_mul (fe_op op_mulAll g_mul (fe_var (pv 1)) (fe_var (pv 1))) (fe_int))) (fe_int)) (fe_int)) (fe_int)) sc__law_mix.nd rfl (Or.inl rfl)) (fss_one (fs_ret (fe_op op_mod g_mod (fe_op op_mulAll g_mul (fe_var (pv 2)) (fe_var (pv 2))) (fe_int))))
theorem ok__law_mix (T : Fx K mg) : FnG P w K mg base CX0 1 T.f__law_mix T.d__law_mix [(PySem.Str.ofString "_law_cell"), (PySem.Str.ofString "_law_k")] (spOf K [.fz, .fz] g__law_mix) :=
  FnG.of_data T.F__law_mix sc__law_mix rfl (fun cdv Ar out st H E hG rm => (fss__law_mix T cdv Ar out st H E hG rm).nox) (fun _ _ _ q => q)
theorem gm__law_mix (P : Program) (w : World) (base : Heap) (T : Fx K mg) : ∀ ds Q Q', (∀ r o, Q r o → Q' r o) → g__law_mix ds Q → g__law_mix ds Q' := fun ds Q Q' h q =>
  (fss__law_mix (P := P) (w := w) (base := base) T .none callerA [] {} (fun _ => none) E0 rfl ((⟨rfl, by decide, by decide⟩ : Room 1 callerA).deeper _)).mono _ _ _ (ends_le h) q
theorem b__law_pick (T : Fx K mg) : Binds K T.d__law_pick [(PySem.Str.ofString "_law_left"), (PySem.Str.ofString "_law_many")] [] := T.F__law_pick.bindsN fun _ _ _ _ _ _ us hl => match us, hl with | [_, _], _ => rfl
theorem sc__law_pick : FnScope [(PySem.Str.ofString "_law_left"), (PySem.Str.ofString "_law_many"), (PySem.Str.ofString "_law_digit")] [(PySem.Str.ofString "_law_left"), (PySem.Str.ofString "_law_many")] (defScope s__law_pick) := ⟨rfl, rfl, rfl, by decide +kernel, rfl, by decide +kernel, by decide +kernel⟩
theorem fss__law_pick (T : Fx K mg) (cdv : Value) (Ar : Around) (out : List Env) (st : Shared) (H : Hp) (E : XK) (hG : (Ar.deeper (envOfC (PySem.Str.ofString "_law_pick") (defScope s__law_pick) st.heap.objs.size T.f__law_pick cdv)).guards = some []) (rm : Room 1 (Ar.deeper (envOfC (PySem.Str.ofString "_law_pick") (defScope s__law_pick) st.heap.objs.size T.f__law_pick cdv))) :
    FSs (cxOf CX0 P w K mg base [(PySem.Str.ofString "_law_left"), (PySem.Str.ofString "_law_many"), (PySem.Str.ofString "_law_digit")] (PySem.Str.ofString "_law_pick") (defScope s__law_pick) T.f__law_pick cdv Ar out st H E).nox (defBody s__law_pick) w__law_pick :=
  fss_cons (fs_asg (fe_op op_addAll g_add (fe_ix (ix_all (hu1 rm)) g_ixA (fe_var (pv 0)) (fe_int) (fun _ _ => rfl)) (fe_int)) (fg_sub (fe_var (pv 0)) (fe_int) set_list g_setL)) (fss_cons (fs_if (ft_cmp op_gtA (g_cmp _ _) (fe_ix (ix_all (hu1 rm)) g_ixA (fe_var (pv 0)) (fe_int) (fun _ _ => rfl)) (fe_int) (nomark _)) (fss_cons (fs_set (i := 2) (fe_op op_mod g_mod (fe_ix (ix_all (hu1 rm)) g_ixA (fe_var (pv 0)) (fe_int) (fun _ _ => rfl)) (fe_var (pv 1))) sc__law_pick.nd rfl (Or.inl rfl)) (fss_cons (fs_asg (fe_op op_fdiv g_div (fe_ix (ix_all (hu1 rm)) g_ixA (fe_var (pv 0)) (fe_int) (fun _ _ => rfl)) (fe_var (pv 1))) (fg_sub (fe_var (pv 0)) (fe_int) set_list g_setL)) (fss_one (fs_ret (fe_var (pv 2)))))) (fss_nil)) (fss_one (fs_ret (fe_op op_mod g_mod (fe_op op_fdiv g_div (fe_callR (ok__law_mix T) (gm__law_mix P w base T) hG (rm.mono (by decide)) rfl T.g__law_mix T.F__law_mix.kp (b__law_mix T) pass0 (fa_cons (fe_callR (ok__law_mix T) (gm__law_mix P w base T) hG (rm.mono (by decide)) rfl T.g__law_mix T.F__law_mix.kp (b__law_mix T) pass0 (fa_cons (fe_ix (ix_all (hu1 rm)) g_ixA (fe_var (pv 0)) (fe_int) (fun _ _ => rfl)) (fa_cons (fe_ix (ix_all (hu1 rm)) g_ixA (fe_var (pv 0)) (fe_int) (fun _ _ => rfl)) (fa_nil)))) (fa_cons (fe_op op_addAll g_add (fe_ix (ix_all (hu1 rm)) g_ixA (fe_var (pv 0)) (fe_int) (fun _ _ => rfl)) (fe_int)) (fa_nil)))) (fe_int)) (fe_var (pv 1))))))
theorem ok__law_pick (T : Fx K mg) : FnG P w K mg base CX0 2 T.f__law_pick T.d__law_pick [(PySem.Str.ofString "_law_left"), (PySem.Str.ofString "_law_many")] (spOf K [.io, .fz] g__law_pick) :=
  FnG.of_data T.F__law_pick sc__law_pick rfl (fun cdv Ar out st H E hG rm => (fss__law_pick T cdv Ar out st H E hG rm).nox) (fun _ _ _ q => q)
theorem gm__law_pick (P : Program) (w : World) (base : Heap) (T : Fx K mg) : ∀ ds Q Q', (∀ r o, Q r o → Q' r o) → g__law_pick ds Q → g__law_pick ds Q' := fun ds Q Q' h q =>
  (fss__law_pick (P := P) (w := w) (base := base) T .none callerA [] {} (fun _ => none) E0 rfl ((⟨rfl, by decide, by decide⟩ : Room 2 callerA).deeper _)).mono _ _ _ (ends_le h) q
theorem b__law_rising (T : Fx K mg) : Binds K T.d__law_rising [(PySem.Str.ofString "_law_left"), (PySem.Str.ofString "_law_many")] [] := T.F__law_rising.bindsN fun _ _ _ _ _ _ us hl => match us, hl with | [_, _], _ => rfl
theorem sc__law_rising : FnScope [(PySem.Str.ofString "_law_left"), (PySem.Str.ofString "_law_many"), (PySem.Str.ofString "_law_found"), (PySem.Str.ofString "_law_last"), (PySem.Str.ofString "_law_k")] [(PySem.Str.ofString "_law_left"), (PySem.Str.ofString "_law_many")] (defScope s__law_rising) := ⟨rfl, rfl, rfl, by decide +kernel, rfl, by decide +kernel, by decide +kernel⟩
theorem fss__law_rising (T : Fx K mg) (cdv : Value) (Ar : Around) (out : List Env) (st : Shared) (H : Hp) (E : XK) (hG : (Ar.deeper (envOfC (PySem.Str.ofString "_law_rising") (defScope s__law_rising) st.heap.objs.size T.f__law_rising cdv)).guards = some []) (rm : Room 2 (Ar.deeper (envOfC (PySem.Str.ofString "_law_rising") (defScope s__law_rising) st.heap.objs.size T.f__law_rising cdv))) :
    FSs (cxOf CX0 P w K mg base [(PySem.Str.ofString "_law_left"), (PySem.Str.ofString "_law_many"), (PySem.Str.ofString "_law_found"), (PySem.Str.ofString "_law_last"), (PySem.Str.ofString "_law_k")] (PySem.Str.ofString "_law_rising") (defScope s__law_rising) T.f__law_rising cdv Ar out st H E).nox (defBody s__law_rising) w__law_rising :=
  fss_cons (fs_par (i := 2) (j := 3) rfl sc__law_rising.nd rfl rfl (by decide) rfl rfl (fa_cons (fe_lst (fa_nil)) (fa_cons (fe_call (ok__law_pick T) (gm__law_pick P w base T) hG (rm.mono (by decide)) rfl T.g__law_pick T.F__law_pick.kp (b__law_pick T) pass0 (fa_cons (fe_var (pv 0)) (fa_cons (fe_int) (fa_nil)))) (fa_nil))) rfl) (fss_cons (fs_for PassesOwn.never rfl (fi_range1 rfl T.n_range (fa_cons (fe_var (pv 1)) (fa_nil))) (fg_name (pg_name (i := 4) sc__law_rising.nd rfl (Or.inl rfl))) (fss_cons (fs_expr (fe_mut PySem.F.plainAttrs_list PySem.F.slot_list_append PySem.F.type_list_append mt_append g_append (fe_var (pv 2)) (fa_cons (fe_var (pv 3)) (fa_nil)))) (fss_one (fs_set (i := 3) (fe_op op_addAll g_add (fe_op op_addAll g_add (fe_var (pv 3)) (fe_int)) (fe_op op_mulAll g_mul (fe_call (ok__law_pick T) (gm__law_pick P w base T) hG (rm.mono (by decide)) rfl T.g__law_pick T.F__law_pick.kp (b__law_pick T) pass0 (fa_cons (fe_var (pv 0)) (fa_cons (fe_int) (fa_nil)))) (fe_call (ok__law_pick T) (gm__law_pick P w base T) hG (rm.mono (by decide)) rfl T.g__law_pick T.F__law_pick.kp (b__law_pick T) pass0 (fa_cons (fe_var (pv 0)) (fa_cons (fe_int) (fa_nil)))))) sc__law_rising.nd rfl (Or.inl rfl))))) (fss_one (fs_ret (fe_var (pv 2)))))
theorem ok__law_rising (T : Fx K mg) : FnG P w K mg base CX0 3 T.f__law_rising T.d__law_rising [(PySem.Str.ofString "_law_left"), (PySem.Str.ofString "_law_many")] (spOf K [.io, .fz] g__law_rising) :=
  FnG.of_data T.F__law_rising sc__law_rising rfl (fun cdv Ar out st H E hG rm => (fss__law_rising T cdv Ar out st H E hG rm).nox) (fun _ _ _ q => q)
theorem gm__law_rising (P : Program) (w : World) (base : Heap) (T : Fx K mg) : ∀ ds Q Q', (∀ r o, Q r o → Q' r o) → g__law_rising ds Q → g__law_rising ds Q' := fun ds Q Q' h q =>
  (fss__law_rising (P := P) (w := w) (base := base) T .none callerA [] {} (fun _ => none) E0 rfl ((⟨rfl, by decide, by decide⟩ : Room 3 callerA).deeper _)).mono _ _ _ (ends_le h) q
theorem b__law_same (T : Fx K mg) : Binds K T.d__law_same [(PySem.Str.ofString "_law_found"), (PySem.Str.ofString "_law_due")] [] := T.F__law_same.bindsN fun _ _ _ _ _ _ us hl => match us, hl with | [_, _], _ => rfl
theorem sc__law_same : FnScope [(PySem.Str.ofString "_law_found"), (PySem.Str.ofString "_law_due"), (PySem.Str.ofString "_law_one"), (PySem.Str.ofString "_law_other")] [(PySem.Str.ofString "_law_found"), (PySem.Str.ofString "_law_due")] (defScope s__law_same) := ⟨rfl, rfl, rfl, by decide +kernel, rfl, by decide +kernel, by decide +kernel⟩
theorem fss__law_same {n : Nat} {gr : DSp} (T : Fx K mg) (ih : FnG P w K mg base CX0 (n + 0) T.f__law_same T.d__law_same [(PySem.Str.ofString "_law_found"), (PySem.Str.ofString "_law_due")] (spOf K [.fz, .fz] gr)) (ihm : ∀ ds Q Q', (∀ r o, Q r o → Q' r o) → gr ds Q → gr ds Q') (cdv : Value) (Ar : Around) (out : List Env) (st : Shared) (H : Hp) (E : XK) (hG : (Ar.deeper (envOfC (PySem.Str.ofString "_law_same") (defScope s__law_same) st.heap.objs.size T.f__law_same cdv)).guards = some []) (rm : Room (n + 0) (Ar.deeper (envOfC (PySem.Str.ofString "_law_same") (defScope s__law_same) st.heap.objs.size T.f__law_same cdv))) :
    FSs (cxOf CX0 P w K mg base [(PySem.Str.ofString "_law_found"), (PySem.Str.ofString "_law_due"), (PySem.Str.ofString "_law_one"), (PySem.Str.ofString "_law_other")] (PySem.Str.ofString "_law_same") (defScope s__law_same) T.f__law_same cdv Ar out st H E).nox (defBody s__law_same) (w__law_same gr) :=
  fss_cons (fs_if (ft_truth (fe_isi2 goodTys.2.2.2.1 goodTys.2.2.2.2 rfl T.n_isinstance (fe_var (pv 1)) (pe_bltn rfl T.n_list (by decide +kernel) rfl) (pe_bltn rfl T.n_tuple (by decide +kernel) rfl))) (fss_cons (fs_if (FW.ft (fw_or (ft_cmp (op_neA (hu64 rm)) g_ne (fe_isi goodTys.2.2.2.1 rfl T.n_isinstance (fe_var (pv 0)) (pe_bltn rfl T.n_list (by decide +kernel) rfl)) (fe_isi goodTys.2.2.2.1 rfl T.n_isinstance (fe_var (pv 1)) (pe_bltn rfl T.n_list (by decide +kernel) rfl)) (nomark _)) (fw_or1 (ft_cmp (op_neA (hu64 rm)) g_ne (fe_isi goodTys.2.2.2.2 rfl T.n_isinstance (fe_var (pv 0)) (pe_bltn rfl T.n_tuple (by decide +kernel) rfl)) (fe_isi goodTys.2.2.2.2 rfl T.n_isinstance (fe_var (pv 1)) (pe_bltn rfl T.n_tuple (by decide +kernel) rfl)) (nomark _))))) (fss_one (fs_ret (fe_bl))) (fss_nil)) (fss_one (fs_ret (fe_and (fe_cmp (op_eqA (hu64 rm)) g_eq (fe_callB (id := default) call_lenA g_lenA rfl T.n_len (by decide +kernel) (fa_cons (fe_var (pv 0)) (fa_nil))) (fe_callB (id := default) call_lenA g_lenA rfl T.n_len (by decide +kernel) (fa_cons (fe_var (pv 1)) (fa_nil))) (nomark _)) (fe_one (fe_callB (id := default) (cr_all rfl) (g_bools _) rfl T.n_all (by decide +kernel) (fa_cons (fe_lc (own := [((PySem.Str.ofString "_law_one"), 2), ((PySem.Str.ofString "_law_other"), 3)]) rfl sc__law_same.nd (fic_of (fi_zip rfl T.n_zip (fa_cons (fe_var (pv 0)) (fa_cons (fe_var (pv 1)) (fa_nil))))) (blkOk_by (by kernel_rfl)) (fun _ _ _ _ _ => fg_tup rfl (fgs_cons (fg_name (pg_name (i := 2) sc__law_same.nd rfl (Or.inl rfl))) (fgs_cons (fg_name (pg_name (i := 3) sc__law_same.nd rfl (Or.inl rfl))) (fgs_nil)))) (fun _ _ _ _ _ => fts_nil) (fun _ _ _ _ _ => fe_callR ih ihm hG (rm.mono (by omega)) rfl T.g__law_same T.F__law_same.kp (b__law_same T) pass0 (fa_cons (fe_var (pv 2)) (fa_cons (fe_var (pv 3)) (fa_nil)))) (by decide)) (fa_nil)))))))) (fss_nil)) (fss_cons (fs_if (FW.ft (fw_or (ft_cmp op_isA (g_is false) (fe_var (pv 1)) (fe_non) (nomark _)) (fw_or1 (ft_truth (fe_isi goodTys.1 rfl T.n_isinstance (fe_var (pv 1)) (pe_bltn rfl T.n_str (by decide +kernel) rfl)))))) (fss_one (fs_ret (fe_and (fe_cmp (op_eqA (hu64 rm)) g_eq (fe_var (pv 0)) (fe_var (pv 1)) (nomark _)) (fe_one (fe_cmp (op_eqA (hu64 rm)) g_eq (fe_isi goodTys.1 rfl T.n_isinstance (fe_var (pv 0)) (pe_bltn rfl T.n_str (by decide +kernel) rfl)) (fe_isi goodTys.1 rfl T.n_isinstance (fe_var (pv 1)) (pe_bltn rfl T.n_str (by decide +kernel) rfl)) (nomark _)))))) (fss_nil)) (fss_cons (fs_if (ft_truth (fe_isi goodTys.2.2.1 rfl T.n_isinstance (fe_var (pv 1)) (pe_bltn rfl T.n_bool (by decide +kernel) rfl))) (fss_one (fs_ret (fe_and (fe_isi goodTys.2.2.1 rfl T.n_isinstance (fe_var (pv 0)) (pe_bltn rfl T.n_bool (by decide +kernel) rfl)) (fe_one (fe_cmp (op_eqA (hu64 rm)) g_eq (fe_var (pv 0)) (fe_var (pv 1)) (nomark _)))))) (fss_nil)) (fss_one (fs_ret (fe_and (fe_isi goodTys.2.1 rfl T.n_isinstance (fe_var (pv 0)) (pe_bltn rfl T.n_int (by decide +kernel) rfl)) (fe_and (fe_not (fe_isi goodTys.2.2.1 rfl T.n_isinstance (fe_var (pv 0)) (pe_bltn rfl T.n_bool (by decide +kernel) rfl))) (fe_one (fe_cmp (op_eqA (hu64 rm)) g_eq (fe_var (pv 0)) (fe_var (pv 1)) (nomark _)))))))))
theorem og__law_same (T : Fx K mg) : ∀ n, n ≤ 12 → FnG P w K mg base CX0 (n + 0) T.f__law_same T.d__law_same [(PySem.Str.ofString "_law_found"), (PySem.Str.ofString "_law_due")] (spOf K [.fz, .fz] (g__law_same n)) ∧ ∀ ds Q Q', (∀ r o, Q r o → Q' r o) → g__law_same n ds Q → g__law_same n ds Q'
  | 0, _ => ⟨⟨fun vs H Q E ⟨_, _, _, _, _, _, z⟩ => z.elim, fun _ _ _ _ _ _ _ _ _ _ _ _ _ _ ⟨_, _, _, _, _, _, z⟩ => z.elim⟩, fun _ _ _ _ z => z.elim⟩
  | n + 1, hn => by
    obtain ⟨ih, ihm⟩ := og__law_same T n (by omega)
    refine ⟨?_, fun ds Q Q' h q => (fss__law_same (P := P) (w := w) (base := base) T ih ihm .none callerA [] {} (fun _ => none) E0 rfl (((⟨rfl, by decide, by decide⟩ : Room 60 callerA).mono (by omega : n + 0 + 1 ≤ 60)).deeper _)).mono _ _ _ (ends_le h) q⟩
    have := FnG.of_data (g := g__law_same (n + 1)) T.F__law_same sc__law_same rfl (fun cdv Ar out st H E hG rm => (fss__law_same T ih ihm cdv Ar out st H E hG rm).nox) (fun _ _ _ q => q)
    exact this.up (by omega)
theorem ok__law_same (T : Fx K mg) (n : Nat) (hn : n ≤ 12) : FnG P w K mg base CX0 (n + 0) T.f__law_same T.d__law_same [(PySem.Str.ofString "_law_found"), (PySem.Str.ofString "_law_due")] (spOf K [.fz, .fz] (g__law_same n)) := (og__law_same T n hn).1
theorem gm__law_same (P : Program) (w : World) (base : Heap) (T : Fx K mg) (n : Nat) (hn : n ≤ 12) : ∀ ds Q Q', (∀ r o, Q r o → Q' r o) → g__law_same n ds Q → g__law_same n ds Q' := (og__law_same (P := P) (w := w) (base := base) T n hn).2
theorem b__law_shuffled (T : Fx K mg) : Binds K T.d__law_shuffled [(PySem.Str.ofString "_law_left"), (PySem.Str.ofString "_law_things")] [] := T.F__law_shuffled.bindsN fun _ _ _ _ _ _ us hl => match us, hl with | [_, _], _ => rfl
theorem sc__law_shuffled : FnScope [(PySem.Str.ofString "_law_left"), (PySem.Str.ofString "_law_things"), (PySem.Str.ofString "_law_rest"), (PySem.Str.ofString "_law_found")] [(PySem.Str.ofString "_law_left"), (PySem.Str.ofString "_law_things")] (defScope s__law_shuffled) := ⟨rfl, rfl, rfl, by decide +kernel, rfl, by decide +kernel, by decide +kernel⟩
theorem fss__law_shuffled (T : Fx K mg) (cdv : Value) (Ar : Around) (out : List Env) (st : Shared) (H : Hp) (E : XK) (hG : (Ar.deeper (envOfC (PySem.Str.ofString "_law_shuffled") (defScope s__law_shuffled) st.heap.objs.size T.f__law_shuffled cdv)).guards = some []) (rm : Room 2 (Ar.deeper (envOfC (PySem.Str.ofString "_law_shuffled") (defScope s__law_shuffled) st.heap.objs.size T.f__law_shuffled cdv))) :
    FSs (cxOf CX0 P w K mg base [(PySem.Str.ofString "_law_left"), (PySem.Str.ofString "_law_things"), (PySem.Str.ofString "_law_rest"), (PySem.Str.ofString "_law_found")] (PySem.Str.ofString "_law_shuffled") (defScope s__law_shuffled) T.f__law_shuffled cdv Ar out st H E).nox (defBody s__law_shuffled) w__law_shuffled :=
  fss_cons (fs_par (i := 2) (j := 3) rfl sc__law_shuffled.nd rfl rfl (by decide) rfl rfl (fa_cons (fe_callTy (cr_lst3 rfl) g_lst3 rfl T.n_list (by decide +kernel) (fa_cons (fe_var (pv 1)) (fa_nil))) (fa_cons (fe_lst (fa_nil)) (fa_nil))) rfl) (fss_cons (fs_while PassesOwn.never (ft_cmp (op_neA (hu64 rm)) g_ne (fe_var (pv 2)) (fe_lst (fa_nil)) (nomark _)) (fss_one (fs_expr (fe_mut PySem.F.plainAttrs_list PySem.F.slot_list_append PySem.F.type_list_append mt_append g_append (fe_var (pv 3)) (fa_cons (fe_mut PySem.F.plainAttrs_list PySem.F.slot_list_pop PySem.F.type_list_pop mt_popAt g_popAt (fe_var (pv 2)) (fa_cons (fe_call (ok__law_pick T) (gm__law_pick P w base T) hG (rm.mono (by decide)) rfl T.g__law_pick T.F__law_pick.kp (b__law_pick T) pass0 (fa_cons (fe_var (pv 0)) (fa_cons (fe_callB (id := default) call_lenA g_lenA rfl T.n_len (by decide +kernel) (fa_cons (fe_var (pv 2)) (fa_nil))) (fa_nil)))) (fa_nil))) (fa_nil)))))) (fss_one (fs_ret (fe_var (pv 3)))))
theorem ok__law_shuffled (T : Fx K mg) : FnG P w K mg base CX0 3 T.f__law_shuffled T.d__law_shuffled [(PySem.Str.ofString "_law_left"), (PySem.Str.ofString "_law_things")] (spOf K [.io, .fz] g__law_shuffled) :=
  FnG.of_data T.F__law_shuffled sc__law_shuffled rfl (fun cdv Ar out st H E hG rm => (fss__law_shuffled T cdv Ar out st H E hG rm).nox) (fun _ _ _ q => q)
theorem gm__law_shuffled (P : Program) (w : World) (base : Heap) (T : Fx K mg) : ∀ ds Q Q', (∀ r o, Q r o → Q' r o) → g__law_shuffled ds Q → g__law_shuffled ds Q' := fun ds Q Q' h q =>
  (fss__law_shuffled (P := P) (w := w) (base := base) T .none callerA [] {} (fun _ => none) E0 rfl ((⟨rfl, by decide, by decide⟩ : Room 3 callerA).deeper _)).mono _ _ _ (ends_le h) q
theorem b__law_some_names (T : Fx K mg) : Binds K T.d__law_some_names [(PySem.Str.ofString "_law_left"), (PySem.Str.ofString "_law_many")] [] := T.F__law_some_names.bindsN fun _ _ _ _ _ _ us hl => match us, hl with | [_, _], _ => rfl
theorem sc__law_some_names : FnScope [(PySem.Str.ofString "_law_left"), (PySem.Str.ofString "_law_many"), (PySem.Str.ofString "_law_letters"), (PySem.Str.ofString "_law_head"), (PySem.Str.ofString "_law_turn"), (PySem.Str.ofString "_law_tail"), (PySem.Str.ofString "_law_first"), (PySem.Str.ofString "_law_by"), (PySem.Str.ofString "_law_size"), (PySem.Str.ofString "_law_stem"), (PySem.Str.ofString "_law_found"), (PySem.Str.ofString "_law_k"), (PySem.Str.ofString "_law_value"), (PySem.Str.ofString "_law_two")] [(PySem.Str.ofString "_law_left"), (PySem.Str.ofString "_law_many")] (defScope s__law_some_names) := ⟨rfl, rfl, rfl, by decide +kernel, rfl, by decide +kernel, by decide +kernel⟩
theorem fss__law_some_names (T : Fx K mg) (cdv : Value) (Ar : Around) (out : List Env) (st : Shared) (H : Hp) (E : XK) (hG : (Ar.deeper (envOfC (PySem.Str.ofString "_law_some_names") (defScope s__law_some_names) st.heap.objs.size T.f__law_some_names cdv)).guards = some []) (rm : Room 2 (Ar.deeper (envOfC (PySem.Str.ofString "_law_some_names") (defScope s__law_some_names) st.heap.objs.size T.f__law_some_names cdv))) :
    FSs (cxOf CX0 P w K mg base [(PySem.Str.ofString "_law_left"), (PySem.Str.ofString "_law_many"), (PySem.Str.ofString "_law_letters"), (PySem.Str.ofString "_law_head"), (PySem.Str.ofString "_law_turn"), (PySem.Str.ofString "_law_tail"), (PySem.Str.ofString "_law_first"), (PySem.Str.ofString "_law_by"), (PySem.Str.ofString "_law_size"), (PySem.Str.ofString "_law_stem"), (PySem.Str.ofString "_law_found"), (PySem.Str.ofString "_law_k"), (PySem.Str.ofString "_law_value"), (PySem.Str.ofString "_law_two")] (PySem.Str.ofString "_law_some_names") (defScope s__law_some_names) T.f__law_some_names cdv Ar out st H E).nox (defBody s__law_some_names) w__law_some_names :=
  fss_cons (fs_set (i := 2) (fe_str) sc__law_some_names.nd rfl (Or.inr rfl)) (fss_cons (fs_set (i := 3) (fe_bm PySem.F.plainAttrs_str PySem.F.slot_str_join PySem.F.type_str_join mt_join g_join (fe_str) (fa_cons (fe_lc (own := [((PySem.Str.ofString "_law_turn"), 4)]) rfl sc__law_some_names.nd (fic_of (fi_range1 rfl T.n_range (fa_cons (fe_call (ok__law_pick T) (gm__law_pick P w base T) hG (rm.mono (by decide)) rfl T.g__law_pick T.F__law_pick.kp (b__law_pick T) pass0 (fa_cons (fe_var (pv 0)) (fa_cons (fe_int) (fa_nil)))) (fa_nil)))) (blkOk_by (by kernel_rfl)) (fun _ _ _ _ _ => fg_name (pg_name (i := 4) sc__law_some_names.nd rfl (Or.inl rfl))) (fun _ _ _ _ _ => fts_nil) (fun _ _ _ _ _ => fe_ix (ix_all (hu1 rm)) g_ixA (fe_var (pv 2)) (fe_call (ok__law_pick T) (gm__law_pick P w base T) hG (rm.mono (by decide)) rfl T.g__law_pick T.F__law_pick.kp (b__law_pick T) pass0 (fa_cons (fe_var (pv 0)) (fa_cons (fe_int) (fa_nil)))) (fun _ _ => rfl)) (by decide)) (fa_nil))) sc__law_some_names.nd rfl (Or.inl rfl)) (fss_cons (fs_set (i := 5) (fe_bm PySem.F.plainAttrs_str PySem.F.slot_str_join PySem.F.type_str_join mt_join g_join (fe_str) (fa_cons (fe_lc (own := [((PySem.Str.ofString "_law_turn"), 4)]) rfl sc__law_some_names.nd (fic_of (fi_range1 rfl T.n_range (fa_cons (fe_call (ok__law_pick T) (gm__law_pick P w base T) hG (rm.mono (by decide)) rfl T.g__law_pick T.F__law_pick.kp (b__law_pick T) pass0 (fa_cons (fe_var (pv 0)) (fa_cons (fe_int) (fa_nil)))) (fa_nil)))) (blkOk_by (by kernel_rfl)) (fun _ _ _ _ _ => fg_name (pg_name (i := 4) sc__law_some_names.nd rfl (Or.inl rfl))) (fun _ _ _ _ _ => fts_nil) (fun _ _ _ _ _ => fe_ix (ix_all (hu1 rm)) g_ixA (fe_var (pv 2)) (fe_call (ok__law_pick T) (gm__law_pick P w base T) hG (rm.mono (by decide)) rfl T.g__law_pick T.F__law_pick.kp (b__law_pick T) pass0 (fa_cons (fe_var (pv 0)) (fa_cons (fe_int) (fa_nil)))) (fun _ _ => rfl)) (by decide)) (fa_nil))) sc__law_some_names.nd rfl (Or.inl rfl)) (fss_cons (fs_parN (is := [6, 7]) rfl (fa_cons (fe_call (ok__law_pick T) (gm__law_pick P w base T) hG (rm.mono (by decide)) rfl T.g__law_pick T.F__law_pick.kp (b__law_pick T) pass0 (fa_cons (fe_var (pv 0)) (fa_cons (fe_int) (fa_nil)))) (fa_cons (fe_ix (ix_all (hu1 rm)) g_ixA (fe_lst (fa_cons (fe_int) (fa_cons (fe_int) (fa_cons (fe_int) (fa_cons (fe_int) (fa_cons (fe_int) (fa_cons (fe_int) (fa_nil)))))))) (fe_call (ok__law_pick T) (gm__law_pick P w base T) hG (rm.mono (by decide)) rfl T.g__law_pick T.F__law_pick.kp (b__law_pick T) pass0 (fa_cons (fe_var (pv 0)) (fa_cons (fe_int) (fa_nil)))) (fun _ _ => rfl)) (fa_nil))) (fn_cons (pg_name (i := 6) sc__law_some_names.nd rfl (Or.inr rfl)) (fn_cons (pg_name (i := 7) sc__law_some_names.nd rfl (Or.inr rfl)) (fn_nil))) rfl) (fss_cons (fs_if (ft_cmp (op_eqA (hu64 rm)) g_eq (fe_call (ok__law_pick T) (gm__law_pick P w base T) hG (rm.mono (by decide)) rfl T.g__law_pick T.F__law_pick.kp (b__law_pick T) pass0 (fa_cons (fe_var (pv 0)) (fa_cons (fe_int) (fa_nil)))) (fe_int) (nomark _)) (fss_cons (fs_parN (is := [9, 10]) rfl (fa_cons (fe_bm PySem.F.plainAttrs_str PySem.F.slot_str_join PySem.F.type_str_join mt_join g_join (fe_str) (fa_cons (fe_lc (own := [((PySem.Str.ofString "_law_k"), 11)]) rfl sc__law_some_names.nd (fic_of (fi_range1 rfl T.n_range (fa_cons (fe_int) (fa_nil)))) (blkOk_by (by kernel_rfl)) (fun _ _ _ _ _ => fg_name (pg_name (i := 11) sc__law_some_names.nd rfl (Or.inl rfl))) (fun _ _ _ _ _ => fts_nil) (fun _ _ _ _ _ => fe_ix (ix_all (hu1 rm)) g_ixA (fe_var (pv 2)) (fe_op op_mod g_mod (fe_op op_addAll g_add (fe_var (pv 6)) (fe_op op_mulAll g_mul (fe_int) (fe_var (pv 11)))) (fe_int)) (fun _ _ => rfl)) (by decide)) (fa_nil))) (fa_cons (fe_lst (fa_nil)) (fa_nil))) (fn_cons (pg_name (i := 9) sc__law_some_names.nd rfl (Or.inr rfl)) (fn_cons (pg_name (i := 10) sc__law_some_names.nd rfl (Or.inl rfl)) (fn_nil))) rfl) (fss_cons (fs_for PassesOwn.never rfl (fi_range2 rfl T.n_range (fa_cons (fe_int) (fa_cons (fe_int) (fa_nil)))) (fg_name (pg_name (i := 8) sc__law_some_names.nd rfl (Or.inr rfl))) (fss_one (fs_expr (fe_mut PySem.F.plainAttrs_list PySem.F.slot_list_extend PySem.F.type_list_extend mt_extend g_extend (fe_var (pv 10)) (fa_cons (fe_lc (own := [((PySem.Str.ofString "_law_k"), 11)]) rfl sc__law_some_names.nd (fic_of (fi_range1 rfl T.n_range (fa_cons (fe_op op_sub g_sub (fe_int) (fe_var (pv 8))) (fa_nil)))) (blkOk_by (by kernel_rfl)) (fun _ _ _ _ _ => fg_name (pg_name (i := 11) sc__law_some_names.nd rfl (Or.inl rfl))) (fun _ _ _ _ _ => fts_nil) (fun _ _ _ _ _ => fe_slice sl_all g_sl (fe_var (pv 9)) (fo_some (fe_var (pv 11))) (fo_some (fe_op op_addAll g_add (fe_var (pv 11)) (fe_var (pv 8))))) (by decide)) (fa_nil)))))) (fss_one (fs_ret (fe_slice sl_all g_sl (fe_var (pv 10)) (fo_none) (fo_some (fe_var (pv 1)))))))) (fss_nil)) (fss_cons (fs_if (FW.ft (fw_and (ft_cmp op_ltA (g_cmp _ _) (fe_var (pv 1)) (fe_int) (nomark _)) (fw_and1 (ft_cmp (op_eqA (hu64 rm)) g_eq (fe_call (ok__law_pick T) (gm__law_pick P w base T) hG (rm.mono (by decide)) rfl T.g__law_pick T.F__law_pick.kp (b__law_pick T) pass0 (fa_cons (fe_var (pv 0)) (fa_cons (fe_int) (fa_nil)))) (fe_int) (nomark _))))) (fss_one (fs_ret (fe_lc (own := [((PySem.Str.ofString "_law_k"), 11)]) rfl sc__law_some_names.nd (fic_of (fi_range1 rfl T.n_range (fa_cons (fe_var (pv 1)) (fa_nil)))) (blkOk_by (by kernel_rfl)) (fun _ _ _ _ _ => fg_name (pg_name (i := 11) sc__law_some_names.nd rfl (Or.inl rfl))) (fun _ _ _ _ _ => fts_nil) (fun _ _ _ _ _ => fe_ix (ix_all (hu1 rm)) g_ixA (fe_var (pv 2)) (fe_op op_mod g_mod (fe_op op_addAll g_add (fe_var (pv 6)) (fe_op op_mulAll g_mul (fe_var (pv 7)) (fe_var (pv 11)))) (fe_int)) (fun _ _ => rfl)) (by decide)))) (fss_nil)) (fss_cons (fs_set (i := 10) (fe_lst (fa_nil)) sc__law_some_names.nd rfl (Or.inl rfl)) (fss_cons (fs_for PassesOwn.never rfl (fi_range1 rfl T.n_range (fa_cons (fe_var (pv 1)) (fa_nil))) (fg_name (pg_name (i := 11) sc__law_some_names.nd rfl (Or.inl rfl))) (fss_cons (fs_set (i := 12) (fe_op op_mod g_mod (fe_op op_addAll g_add (fe_var (pv 6)) (fe_op op_mulAll g_mul (fe_var (pv 7)) (fe_var (pv 11)))) (fe_int)) sc__law_some_names.nd rfl (Or.inl rfl)) (fss_cons (fs_set (i := 13) (fe_op op_addAll g_add (fe_ix (ix_all (hu1 rm)) g_ixA (fe_var (pv 2)) (fe_op op_fdiv g_div (fe_var (pv 12)) (fe_int)) (fun _ _ => rfl)) (fe_ix (ix_all (hu1 rm)) g_ixA (fe_var (pv 2)) (fe_op op_mod g_mod (fe_var (pv 12)) (fe_int)) (fun _ _ => rfl))) sc__law_some_names.nd rfl (Or.inl rfl)) (fss_one (fs_expr (fe_mut PySem.F.plainAttrs_list PySem.F.slot_list_append PySem.F.type_list_append mt_append g_append (fe_var (pv 10)) (fa_cons (fe_op op_addAll g_add (fe_op op_addAll g_add (fe_var (pv 3)) (fe_var (pv 13))) (fe_slice sl_all g_sl (fe_var (pv 5)) (fo_none) (fo_some (fe_op op_mod g_mod (fe_op op_addAll g_add (fe_op op_mulAll g_mul (fe_var (pv 11)) (fe_var (pv 11))) (fe_var (pv 6))) (fe_int))))) (fa_nil)))))))) (fss_one (fs_ret (fe_var (pv 10)))))))))))
theorem ok__law_some_names (T : Fx K mg) : FnG P w K mg base CX0 3 T.f__law_some_names T.d__law_some_names [(PySem.Str.ofString "_law_left"), (PySem.Str.ofString "_law_many")] (spOf K [.io, .fz] g__law_some_names) :=
  FnG.of_data T.F__law_some_names sc__law_some_names rfl (fun cdv Ar out st H E hG rm => (fss__law_some_names T cdv Ar out st H E hG rm).nox) (fun _ _ _ q => q)
theorem gm__law_some_names (P : Program) (w : World) (base : Heap) (T : Fx K mg) : ∀ ds Q Q', (∀ r o, Q r o → Q' r o) → g__law_some_names ds Q → g__law_some_names ds Q' := fun ds Q Q' h q =>
  (fss__law_some_names (P := P) (w := w) (base := base) T .none callerA [] {} (fun _ => none) E0 rfl ((⟨rfl, by decide, by decide⟩ : Room 3 callerA).deeper _)).mono _ _ _ (ends_le h) q
theorem b__law_some_parts (T : Fx K mg) : Binds K T.d__law_some_parts [(PySem.Str.ofString "_law_left"), (PySem.Str.ofString "_law_names")] [] := T.F__law_some_parts.bindsN fun _ _ _ _ _ _ us hl => match us, hl with | [_, _], _ => rfl
theorem sc__law_some_parts : FnScope [(PySem.Str.ofString "_law_left"), (PySem.Str.ofString "_law_names"), (PySem.Str.ofString "_law_found"), (PySem.Str.ofString "_law_k"), (PySem.Str.ofString "_law_name")] [(PySem.Str.ofString "_law_left"), (PySem.Str.ofString "_law_names")] (defScope s__law_some_parts) := ⟨rfl, rfl, rfl, by decide +kernel, rfl, by decide +kernel, by decide +kernel⟩
theorem fss__law_some_parts (T : Fx K mg) (cdv : Value) (Ar : Around) (out : List Env) (st : Shared) (H : Hp) (E : XK) (hG : (Ar.deeper (envOfC (PySem.Str.ofString "_law_some_parts") (defScope s__law_some_parts) st.heap.objs.size T.f__law_some_parts cdv)).guards = some []) (rm : Room 2 (Ar.deeper (envOfC (PySem.Str.ofString "_law_some_parts") (defScope s__law_some_parts) st.heap.objs.size T.f__law_some_parts cdv))) :
    FSs (cxOf CX0 P w K mg base [(PySem.Str.ofString "_law_left"), (PySem.Str.ofString "_law_names"), (PySem.Str.ofString "_law_found"), (PySem.Str.ofString "_law_k"), (PySem.Str.ofString "_law_name")] (PySem.Str.ofString "_law_some_parts") (defScope s__law_some_parts) T.f__law_some_parts cdv Ar out st H E).nox (defBody s__law_some_parts) w__law_some_parts :=
  fss_cons (fs_set (i := 2) (fe_newK) sc__law_some_parts.nd rfl (Or.inl rfl)) (fss_cons (fs_for PassesOwn.never rfl (fi_enum rfl T.n_enumerate (fa_cons (fe_var (pv 1)) (fa_nil))) (fg_tup rfl (fgs_cons (fg_name (pg_name (i := 3) sc__law_some_parts.nd rfl (Or.inl rfl))) (fgs_cons (fg_name (pg_name (i := 4) sc__law_some_parts.nd rfl (Or.inl rfl))) (fgs_nil)))) (fss_one (fs_asg (fe_ix (ix_all (hu1 rm)) g_ixA (fe_op op_addAll g_add (fe_lst (fa_cons (fe_str) (fa_nil))) (fe_slice sl_all g_sl (fe_var (pv 1)) (fo_none) (fo_some (fe_var (pv 3))))) (fe_if (ft_cmp op_gtA (g_cmp _ _) (fe_call (ok__law_pick T) (gm__law_pick P w base T) hG (rm.mono (by decide)) rfl T.g__law_pick T.F__law_pick.kp (b__law_pick T) pass0 (fa_cons (fe_var (pv 0)) (fa_cons (fe_int) (fa_nil)))) (fe_int) (nomark _)) (fe_call (ok__law_pick T) (gm__law_pick P w base T) hG (rm.mono (by decide)) rfl T.g__law_pick T.F__law_pick.kp (b__law_pick T) pass0 (fa_cons (fe_var (pv 0)) (fa_cons (fe_op op_addAll g_add (fe_var (pv 3)) (fe_int)) (fa_nil)))) (fe_int)) (fun _ _ => rfl)) (fg_sub (fe_var (pv 2)) (fe_var (pv 4)) (set_dict (hu1 rm)) g_setD)))) (fss_one (fs_ret (fe_var (pv 2)))))
theorem ok__law_some_parts (T : Fx K mg) : FnG P w K mg base CX0 3 T.f__law_some_parts T.d__law_some_parts [(PySem.Str.ofString "_law_left"), (PySem.Str.ofString "_law_names")] (spOf K [.io, .fz] g__law_some_parts) :=
  FnG.of_data T.F__law_some_parts sc__law_some_parts rfl (fun cdv Ar out st H E hG rm => (fss__law_some_parts T cdv Ar out st H E hG rm).nox) (fun _ _ _ q => q)
theorem gm__law_some_parts (P : Program) (w : World) (base : Heap) (T : Fx K mg) : ∀ ds Q Q', (∀ r o, Q r o → Q' r o) → g__law_some_parts ds Q → g__law_some_parts ds Q' := fun ds Q Q' h q =>
  (fss__law_some_parts (P := P) (w := w) (base := base) T .none callerA [] {} (fun _ => none) E0 rfl ((⟨rfl, by decide, by decide⟩ : Room 3 callerA).deeper _)).mono _ _ _ (ends_le h) q
theorem b_parts_over (T : Fx K mg) : Binds K T.d_parts_over [(PySem.Str.ofString "house"), (PySem.Str.ofString "part")] [] := T.F_parts_over.bindsN fun _ _ _ _ _ _ us hl => match us, hl with | [_, _], _ => rfl
theorem sc_parts_over : FnScope [(PySem.Str.ofString "house"), (PySem.Str.ofString "part"), (PySem.Str.ofString "within"), (PySem.Str.ofString "found")] [(PySem.Str.ofString "house"), (PySem.Str.ofString "part")] (defScope s_parts_over) := ⟨rfl, rfl, rfl, by decide +kernel, rfl, by decide +kernel, by decide +kernel⟩
theorem fss_parts_over (T : Fx K mg) (cdv : Value) (Ar : Around) (out : List Env) (st : Shared) (H : Hp) (E : XK) (hG : (Ar.deeper (envOfC (PySem.Str.ofString "parts_over") (defScope s_parts_over) st.heap.objs.size T.f_parts_over cdv)).guards = some []) (rm : Room 0 (Ar.deeper (envOfC (PySem.Str.ofString "parts_over") (defScope s_parts_over) st.heap.objs.size T.f_parts_over cdv))) :
    FSs (cxOf CX0 P w K mg base [(PySem.Str.ofString "house"), (PySem.Str.ofString "part"), (PySem.Str.ofString "within"), (PySem.Str.ofString "found")] (PySem.Str.ofString "parts_over") (defScope s_parts_over) T.f_parts_over cdv Ar out st H E).nox (defBody s_parts_over) w_parts_over :=
  fss_cons (fs_set (i := 2) (fe_callTy (call_dict1 rfl) g_dict1 rfl T.n_dict (by decide +kernel) (fa_cons (fe_ix (ix_all (hu1 rm)) g_ixA (fe_var (pv 0)) (fe_int) (fun _ _ => rfl)) (fa_nil))) sc_parts_over.nd rfl (Or.inl rfl)) (fss_cons (fs_set (i := 3) (fe_lst (fa_nil)) sc_parts_over.nd rfl (Or.inl rfl)) (fss_cons (fs_while PassesOwn.never (ft_cmp (op_inAA (hu1 rm)) (g_inA false) (fe_var (pv 1)) (fe_var (pv 2)) (by rfl)) (fss_cons (fs_expr (fe_mut PySem.F.plainAttrs_list PySem.F.slot_list_append PySem.F.type_list_append mt_append g_append (fe_var (pv 3)) (fa_cons (fe_var (pv 1)) (fa_nil)))) (fss_one (fs_set (i := 1) (fe_ix (ix_all (hu1 rm)) g_ixA (fe_var (pv 2)) (fe_var (pv 1)) (fun _ _ => rfl)) sc_parts_over.nd rfl (Or.inl rfl))))) (fss_one (fs_ret (fe_var (pv 3))))))
theorem ok_parts_over (T : Fx K mg) : FnG P w K mg base CX0 1 T.f_parts_over T.d_parts_over [(PySem.Str.ofString "house"), (PySem.Str.ofString "part")] (spOf K [.fz, .fz] g_parts_over) :=
  FnG.of_data T.F_parts_over sc_parts_over rfl (fun cdv Ar out st H E hG rm => (fss_parts_over T cdv Ar out st H E hG rm).nox) (fun _ _ _ q => q)
theorem gm_parts_over (P : Program) (w : World) (base : Heap) (T : Fx K mg) : ∀ ds Q Q', (∀ r o, Q r o → Q' r o) → g_parts_over ds Q → g_parts_over ds Q' := fun ds Q Q' h q =>
  (fss_parts_over (P := P) (w := w) (base := base) T .none callerA [] {} (fun _ => none) E0 rfl ((⟨rfl, by decide, by decide⟩ : Room 1 callerA).deeper _)).mono _ _ _ (ends_le h) q
theorem b_lets (T : Fx K mg) : Binds K T.d_lets [(PySem.Str.ofString "house"), (PySem.Str.ofString "paper"), (PySem.Str.ofString "leave"), (PySem.Str.ofString "day")] [] := T.F_lets.bindsN fun _ _ _ _ _ _ us hl => match us, hl with | [_, _, _, _], _ => rfl
theorem sc_lets : FnScope [(PySem.Str.ofString "house"), (PySem.Str.ofString "paper"), (PySem.Str.ofString "leave"), (PySem.Str.ofString "day"), (PySem.Str.ofString "number"), (PySem.Str.ofString "giver"), (PySem.Str.ofString "taker"), (PySem.Str.ofString "part"), (PySem.Str.ofString "first"), (PySem.Str.ofString "last"), (PySem.Str.ofString "most")] [(PySem.Str.ofString "house"), (PySem.Str.ofString "paper"), (PySem.Str.ofString "leave"), (PySem.Str.ofString "day")] (defScope s_lets) := ⟨rfl, rfl, rfl, by decide +kernel, rfl, by decide +kernel, by decide +kernel⟩
theorem fss_lets (T : Fx K mg) (cdv : Value) (Ar : Around) (out : List Env) (st : Shared) (H : Hp) (E : XK) (hG : (Ar.deeper (envOfC (PySem.Str.ofString "lets") (defScope s_lets) st.heap.objs.size T.f_lets cdv)).guards = some []) (rm : Room 1 (Ar.deeper (envOfC (PySem.Str.ofString "lets") (defScope s_lets) st.heap.objs.size T.f_lets cdv))) :
    FSs (cxOf CX0 P w K mg base [(PySem.Str.ofString "house"), (PySem.Str.ofString "paper"), (PySem.Str.ofString "leave"), (PySem.Str.ofString "day"), (PySem.Str.ofString "number"), (PySem.Str.ofString "giver"), (PySem.Str.ofString "taker"), (PySem.Str.ofString "part"), (PySem.Str.ofString "first"), (PySem.Str.ofString "last"), (PySem.Str.ofString "most")] (PySem.Str.ofString "lets") (defScope s_lets) T.f_lets cdv Ar out st H E).nox (defBody s_lets) w_lets :=
  fss_cons (fs_asg (fe_var (pv 2)) (fg_tup rfl (fgs_cons (fg_name (pg_name (i := 4) sc_lets.nd rfl (Or.inl rfl))) (fgs_cons (fg_name (pg_name (i := 5) sc_lets.nd rfl (Or.inl rfl))) (fgs_cons (fg_name (pg_name (i := 6) sc_lets.nd rfl (Or.inl rfl))) (fgs_cons (fg_name (pg_name (i := 7) sc_lets.nd rfl (Or.inl rfl))) (fgs_cons (fg_name (pg_name (i := 8) sc_lets.nd rfl (Or.inl rfl))) (fgs_cons (fg_name (pg_name (i := 9) sc_lets.nd rfl (Or.inl rfl))) (fgs_cons (fg_name (pg_name (i := 10) sc_lets.nd rfl (Or.inl rfl))) (fgs_nil)))))))))) (fss_one (fs_ret (fe_and (fe_cmp (op_inAA (hu1 rm)) (g_inA false) (fe_var (pv 7)) (fe_call (ok_parts_over T) (gm_parts_over P w base T) hG (rm.mono (by decide)) rfl T.g_parts_over T.F_parts_over.kp (b_parts_over T) pass0 (fa_cons (fe_var (pv 0)) (fa_cons (fe_ix (ix_all (hu1 rm)) g_ixA (fe_var (pv 1)) (fe_int) (fun _ _ => rfl)) (fa_nil)))) (by rfl)) (fe_and (fe_chain op_leA op_leA (g_cmp _ _) (g_cmp _ _) (fe_var (pv 8)) (fe_var (pv 3)) (fe_var (pv 9))) (fe_one (fe_cmp op_leA (g_cmp _ _) (fe_ix (ix_all (hu1 rm)) g_ixA (fe_var (pv 1)) (fe_int) (fun _ _ => rfl)) (fe_var (pv 10)) (nomark _)))))))
theorem ok_lets (T : Fx K mg) : FnG P w K mg base CX0 2 T.f_lets T.d_lets [(PySem.Str.ofString "house"), (PySem.Str.ofString "paper"), (PySem.Str.ofString "leave"), (PySem.Str.ofString "day")] (spOf K [.fz, .fz, .fz, .fz] g_lets) :=
  FnG.of_data T.F_lets sc_lets rfl (fun cdv Ar out st H E hG rm => (fss_lets T cdv Ar out st H E hG rm).nox) (fun _ _ _ q => q)
theorem gm_lets (P : Program) (w : World) (base : Heap) (T : Fx K mg) : ∀ ds Q Q', (∀ r o, Q r o → Q' r o) → g_lets ds Q → g_lets ds Q' := fun ds Q Q' h q =>
  (fss_lets (P := P) (w := w) (base := base) T .none callerA [] {} (fun _ => none) E0 rfl ((⟨rfl, by decide, by decide⟩ : Room 2 callerA).deeper _)).mono _ _ _ (ends_le h) q
theorem b_steps_on (T : Fx K mg) : Binds K T.d_steps_on [(PySem.Str.ofString "house"), (PySem.Str.ofString "paper"), (PySem.Str.ofString "day")] [] := T.F_steps_on.bindsN fun _ _ _ _ _ _ us hl => match us, hl with | [_, _, _], _ => rfl
theorem sc_steps_on : FnScope [(PySem.Str.ofString "house"), (PySem.Str.ofString "paper"), (PySem.Str.ofString "day"), (PySem.Str.ofString "sides"), (PySem.Str.ofString "some"), (PySem.Str.ofString "leave")] [(PySem.Str.ofString "house"), (PySem.Str.ofString "paper"), (PySem.Str.ofString "day")] (defScope s_steps_on) := ⟨rfl, rfl, rfl, by decide +kernel, rfl, by decide +kernel, by decide +kernel⟩
theorem fss_steps_on (T : Fx K mg) (cdv : Value) (Ar : Around) (out : List Env) (st : Shared) (H : Hp) (E : XK) (hG : (Ar.deeper (envOfC (PySem.Str.ofString "steps_on") (defScope s_steps_on) st.heap.objs.size T.f_steps_on cdv)).guards = some []) (rm : Room 2 (Ar.deeper (envOfC (PySem.Str.ofString "steps_on") (defScope s_steps_on) st.heap.objs.size T.f_steps_on cdv))) :
    FSs (cxOf CX0 P w K mg base [(PySem.Str.ofString "house"), (PySem.Str.ofString "paper"), (PySem.Str.ofString "day"), (PySem.Str.ofString "sides"), (PySem.Str.ofString "some"), (PySem.Str.ofString "leave")] (PySem.Str.ofString "steps_on") (defScope s_steps_on) T.f_steps_on cdv Ar out st H E).nox (defBody s_steps_on) w_steps_on :=
  fss_cons (fs_set (i := 3) (fe_slice sl_all g_sl (fe_var (pv 1)) (fo_some (fe_int)) (fo_none)) sc_steps_on.nd rfl (Or.inr rfl)) (fss_cons (fs_setLc (i := 4) (own := [((PySem.Str.ofString "leave"), 5)]) rfl sc_steps_on.nd rfl rfl (sw_true rfl rfl rfl (by decide +kernel)) (fic_of (fi_any (fe_ix (ix_all (hu1 rm)) g_ixA (fe_var (pv 0)) (fe_int) (fun _ _ => rfl)))) (blkOk_by (by kernel_rfl)) (fun _ _ _ _ _ => fg_name (pg_name (i := 5) sc_steps_on.nd rfl (Or.inl rfl))) (fun _ _ _ _ _ => fts_one (FW.ft (fw_and (ft_cmp (op_notInAA (hu1 rm)) (g_inA true) (fe_ix (ix_all (hu1 rm)) g_ixA (fe_var (pv 5)) (fe_int) (fun _ _ => rfl)) (fe_var (pv 3)) (by rfl)) (fw_and1 (ft_cmp (op_notInAA (hu1 rm)) (g_inA true) (fe_ix (ix_all (hu1 rm)) g_ixA (fe_var (pv 5)) (fe_int) (fun _ _ => rfl)) (fe_var (pv 3)) (by rfl)))))) (fun _ _ _ _ _ => fe_var (pv 5)) (by decide)) (fss_one (fs_ret (fe_lc (own := [((PySem.Str.ofString "leave"), 5)]) rfl sc_steps_on.nd (fic_of (fi_any (fe_var (pv 4)))) (blkOk_by (by kernel_rfl)) (fun _ _ _ _ _ => fg_name (pg_name (i := 5) sc_steps_on.nd rfl (Or.inl rfl))) (fun _ _ _ _ _ => fts_one (ft_truth (fe_callR (ok_lets T) (gm_lets P w base T) hG (rm.mono (by decide)) rfl T.g_lets T.F_lets.kp (b_lets T) pass0 (fa_cons (fe_var (pv 0)) (fa_cons (fe_var (pv 1)) (fa_cons (fe_var (pv 5)) (fa_cons (fe_var (pv 2)) (fa_nil)))))))) (fun _ _ _ _ _ => fe_var (pv 5)) (by decide)))))
theorem ok_steps_on (T : Fx K mg) : FnG P w K mg base CX0 3 T.f_steps_on T.d_steps_on [(PySem.Str.ofString "house"), (PySem.Str.ofString "paper"), (PySem.Str.ofString "day")] (spOf K [.fz, .fz, .fz] g_steps_on) :=
  FnG.of_data T.F_steps_on sc_steps_on rfl (fun cdv Ar out st H E hG rm => (fss_steps_on T cdv Ar out st H E hG rm).nox) (fun _ _ _ q => q)
theorem gm_steps_on (P : Program) (w : World) (base : Heap) (T : Fx K mg) : ∀ ds Q Q', (∀ r o, Q r o → Q' r o) → g_steps_on ds Q → g_steps_on ds Q' := fun ds Q Q' h q =>
  (fss_steps_on (P := P) (w := w) (base := base) T .none callerA [] {} (fun _ => none) E0 rfl ((⟨rfl, by decide, by decide⟩ : Room 3 callerA).deeper _)).mono _ _ _ (ends_le h) q
theorem b_rows_from (T : Fx K mg) : Binds K T.d_rows_from [(PySem.Str.ofString "house"), (PySem.Str.ofString "paper"), (PySem.Str.ofString "holder"), (PySem.Str.ofString "day")] [] := T.F_rows_from.bindsN fun _ _ _ _ _ _ us hl => match us, hl with | [_, _, _, _], _ => rfl
theorem sc_rows_from : FnScope [(PySem.Str.ofString "house"), (PySem.Str.ofString "paper"), (PySem.Str.ofString "holder"), (PySem.Str.ofString "day"), (PySem.Str.ofString "steps"), (PySem.Str.ofString "found"), (PySem.Str.ofString "waiting"), (PySem.Str.ofString "here"), (PySem.Str.ofString "leave")] [(PySem.Str.ofString "house"), (PySem.Str.ofString "paper"), (PySem.Str.ofString "holder"), (PySem.Str.ofString "day")] (defScope s_rows_from) := ⟨rfl, rfl, rfl, by decide +kernel, rfl, by decide +kernel, by decide +kernel⟩
theorem fss_rows_from (T : Fx K mg) (cdv : Value) (Ar : Around) (out : List Env) (st : Shared) (H : Hp) (E : XK) (hG : (Ar.deeper (envOfC (PySem.Str.ofString "rows_from") (defScope s_rows_from) st.heap.objs.size T.f_rows_from cdv)).guards = some []) (rm : Room 3 (Ar.deeper (envOfC (PySem.Str.ofString "rows_from") (defScope s_rows_from) st.heap.objs.size T.f_rows_from cdv))) :
    FSs (cxOf CX0 P w K mg base [(PySem.Str.ofString "house"), (PySem.Str.ofString "paper"), (PySem.Str.ofString "holder"), (PySem.Str.ofString "day"), (PySem.Str.ofString "steps"), (PySem.Str.ofString "found"), (PySem.Str.ofString "waiting"), (PySem.Str.ofString "here"), (PySem.Str.ofString "leave")] (PySem.Str.ofString "rows_from") (defScope s_rows_from) T.f_rows_from cdv Ar out st H E).nox (defBody s_rows_from) w_rows_from :=
  fss_cons (fs_if (ft_cmp (op_inAA (hu1 rm)) (g_inA false) (fe_var (pv 2)) (fe_slice sl_all g_sl (fe_var (pv 1)) (fo_some (fe_int)) (fo_none)) (by rfl)) (fss_one (fs_ret (fe_newK))) (fss_nil)) (fss_cons (fs_set (i := 4) (fe_call (ok_steps_on T) (gm_steps_on P w base T) hG (rm.mono (by decide)) rfl T.g_steps_on T.F_steps_on.kp (b_steps_on T) pass0 (fa_cons (fe_var (pv 0)) (fa_cons (fe_var (pv 1)) (fa_cons (fe_var (pv 3)) (fa_nil))))) sc_rows_from.nd rfl (Or.inl rfl)) (fss_cons (fs_set (i := 5) (fe_disp1 (fe_var (pv 2)) (fe_lst (fa_nil))) sc_rows_from.nd rfl (Or.inl rfl)) (fss_cons (fs_set (i := 6) (fe_lst (fa_cons (fe_var (pv 2)) (fa_nil))) sc_rows_from.nd rfl (Or.inl rfl)) (fss_cons (fs_while PassesOwn.never (ft_cmp (op_neA (hu64 rm)) g_ne (fe_var (pv 6)) (fe_lst (fa_nil)) (nomark _)) (fss_cons (fs_set (i := 7) (fe_mut PySem.F.plainAttrs_list PySem.F.slot_list_pop PySem.F.type_list_pop mt_popAt g_popAt (fe_var (pv 6)) (fa_cons (fe_int) (fa_nil))) sc_rows_from.nd rfl (Or.inl rfl)) (fss_one (fs_for PassesOwn.never rfl (fi_any (fe_var (pv 4))) (fg_name (pg_name (i := 8) sc_rows_from.nd rfl (Or.inl rfl))) (fss_one (fs_if (FW.ft (fw_and (ft_cmp (op_eqA (hu64 rm)) g_eq (fe_ix (ix_all (hu1 rm)) g_ixA (fe_var (pv 8)) (fe_int) (fun _ _ => rfl)) (fe_var (pv 7)) (nomark _)) (fw_and1 (ft_cmp (op_notInAA (hu1 rm)) (g_inA true) (fe_ix (ix_all (hu1 rm)) g_ixA (fe_var (pv 8)) (fe_int) (fun _ _ => rfl)) (fe_var (pv 5)) (by rfl))))) (fss_cons (fs_asg (fe_op op_addAll g_add (fe_ix (ix_all (hu1 rm)) g_ixA (fe_var (pv 5)) (fe_var (pv 7)) (fun _ _ => rfl)) (fe_lst (fa_cons (fe_ix (ix_all (hu1 rm)) g_ixA (fe_var (pv 8)) (fe_int) (fun _ _ => rfl)) (fa_nil)))) (fg_sub (fe_var (pv 5)) (fe_ix (ix_all (hu1 rm)) g_ixA (fe_var (pv 8)) (fe_int) (fun _ _ => rfl)) (set_dict (hu1 rm)) g_setD)) (fss_one (fs_expr (fe_mut PySem.F.plainAttrs_list PySem.F.slot_list_append PySem.F.type_list_append mt_append g_append (fe_var (pv 6)) (fa_cons (fe_ix (ix_all (hu1 rm)) g_ixA (fe_var (pv 8)) (fe_int) (fun _ _ => rfl)) (fa_nil)))))) (fss_nil))))))) (fss_one (fs_ret (fe_var (pv 5))))))))
theorem ok_rows_from (T : Fx K mg) : FnG P w K mg base CX0 4 T.f_rows_from T.d_rows_from [(PySem.Str.ofString "house"), (PySem.Str.ofString "paper"), (PySem.Str.ofString "holder"), (PySem.Str.ofString "day")] (spOf K [.fz, .fz, .fz, .fz] g_rows_from) :=
  FnG.of_data T.F_rows_from sc_rows_from rfl (fun cdv Ar out st H E hG rm => (fss_rows_from T cdv Ar out st H E hG rm).nox) (fun _ _ _ q => q)
theorem gm_rows_from (P : Program) (w : World) (base : Heap) (T : Fx K mg) : ∀ ds Q Q', (∀ r o, Q r o → Q' r o) → g_rows_from ds Q → g_rows_from ds Q' := fun ds Q Q' h q =>
  (fss_rows_from (P := P) (w := w) (base := base) T .none callerA [] {} (fun _ => none) E0 rfl ((⟨rfl, by decide, by decide⟩ : Room 4 callerA).deeper _)).mono _ _ _ (ends_le h) q
theorem b_row_of (T : Fx K mg) : Binds K T.d_row_of [(PySem.Str.ofString "house"), (PySem.Str.ofString "paper"), (PySem.Str.ofString "holder"), (PySem.Str.ofString "signer"), (PySem.Str.ofString "day")] [] := T.F_row_of.bindsN fun _ _ _ _ _ _ us hl => match us, hl with | [_, _, _, _, _], _ => rfl
theorem sc_row_of : FnScope [(PySem.Str.ofString "house"), (PySem.Str.ofString "paper"), (PySem.Str.ofString "holder"), (PySem.Str.ofString "signer"), (PySem.Str.ofString "day")] [(PySem.Str.ofString "house"), (PySem.Str.ofString "paper"), (PySem.Str.ofString "holder"), (PySem.Str.ofString "signer"), (PySem.Str.ofString "day")] (defScope s_row_of) := ⟨rfl, rfl, rfl, by decide +kernel, rfl, by decide +kernel, by decide +kernel⟩
theorem fss_row_of (T : Fx K mg) (cdv : Value) (Ar : Around) (out : List Env) (st : Shared) (H : Hp) (E : XK) (hG : (Ar.deeper (envOfC (PySem.Str.ofString "row_of") (defScope s_row_of) st.heap.objs.size T.f_row_of cdv)).guards = some []) (rm : Room 4 (Ar.deeper (envOfC (PySem.Str.ofString "row_of") (defScope s_row_of) st.heap.objs.size T.f_row_of cdv))) :
    FSs (cxOf CX0 P w K mg base [(PySem.Str.ofString "house"), (PySem.Str.ofString "paper"), (PySem.Str.ofString "holder"), (PySem.Str.ofString "signer"), (PySem.Str.ofString "day")] (PySem.Str.ofString "row_of") (defScope s_row_of) T.f_row_of cdv Ar out st H E).nox (defBody s_row_of) w_row_of :=
  fss_one (fs_ret (fe_get1 (hu1 rm) (fe_call (ok_rows_from T) (gm_rows_from P w base T) hG (rm.mono (by decide)) rfl T.g_rows_from T.F_rows_from.kp (b_rows_from T) pass0 (fa_cons (fe_var (pv 0)) (fa_cons (fe_var (pv 1)) (fa_cons (fe_var (pv 2)) (fa_cons (fe_var (pv 4)) (fa_nil)))))) (fe_var (pv 3)) ⟨by rfl, by rfl, by rfl, by rfl⟩))
theorem ok_row_of (T : Fx K mg) : FnG P w K mg base CX0 5 T.f_row_of T.d_row_of [(PySem.Str.ofString "house"), (PySem.Str.ofString "paper"), (PySem.Str.ofString "holder"), (PySem.Str.ofString "signer"), (PySem.Str.ofString "day")] (spOf K [.fz, .fz, .fz, .fz, .fz] g_row_of) :=
  FnG.of_data T.F_row_of sc_row_of rfl (fun cdv Ar out st H E hG rm => (fss_row_of T cdv Ar out st H E hG rm).nox) (fun _ _ _ q => q)
theorem gm_row_of (P : Program) (w : World) (base : Heap) (T : Fx K mg) : ∀ ds Q Q', (∀ r o, Q r o → Q' r o) → g_row_of ds Q → g_row_of ds Q' := fun ds Q Q' h q =>
  (fss_row_of (P := P) (w := w) (base := base) T .none callerA [] {} (fun _ => none) E0 rfl ((⟨rfl, by decide, by decide⟩ : Room 5 callerA).deeper _)).mono _ _ _ (ends_le h) q
theorem b__law_row_right (T : Fx K mg) : Binds K T.d__law_row_right [(PySem.Str.ofString "_law_left")] [] := T.F__law_row_right.bindsN fun _ _ _ _ _ _ us hl => match us, hl with | [_], _ => rfl
theorem sc__law_row_right : FnScope [(PySem.Str.ofString "_law_left"), (PySem.Str.ofString "_law_names"), (PySem.Str.ofString "_law_many"), (PySem.Str.ofString "_law_parts"), (PySem.Str.ofString "_law_people"), (PySem.Str.ofString "_law_over"), (PySem.Str.ofString "_law_paper"), (PySem.Str.ofString "_law_day"), (PySem.Str.ofString "_law_numbers"), (PySem.Str.ofString "_law_leaves"), (PySem.Str.ofString "_law_gap"), (PySem.Str.ofString "_law_k"), (PySem.Str.ofString "_law_some"), (PySem.Str.ofString "_law_leave"), (PySem.Str.ofString "_law_at"), (PySem.Str.ofString "_law_house"), (PySem.Str.ofString "_law_turn"), (PySem.Str.ofString "_law_due"), (PySem.Str.ofString "_law_to")] [(PySem.Str.ofString "_law_left")] (defScope s__law_row_right) := ⟨rfl, rfl, rfl, by decide +kernel, rfl, by decide +kernel, by decide +kernel⟩
theorem fss__law_row_right (T : Fx K mg) (cdv : Value) (Ar : Around) (out : List Env) (st : Shared) (H : Hp) (E : XK) (hG : (Ar.deeper (envOfC (PySem.Str.ofString "_law_row_right") (defScope s__law_row_right) st.heap.objs.size T.f__law_row_right cdv)).guards = some []) (rm : Room 12 (Ar.deeper (envOfC (PySem.Str.ofString "_law_row_right") (defScope s__law_row_right) st.heap.objs.size T.f__law_row_right cdv))) :
    FSs (cxOf CX0 P w K mg base [(PySem.Str.ofString "_law_left"), (PySem.Str.ofString "_law_names"), (PySem.Str.ofString "_law_many"), (PySem.Str.ofString "_law_parts"), (PySem.Str.ofString "_law_people"), (PySem.Str.ofString "_law_over"), (PySem.Str.ofString "_law_paper"), (PySem.Str.ofString "_law_day"), (PySem.Str.ofString "_law_numbers"), (PySem.Str.ofString "_law_leaves"), (PySem.Str.ofString "_law_gap"), (PySem.Str.ofString "_law_k"), (PySem.Str.ofString "_law_some"), (PySem.Str.ofString "_law_leave"), (PySem.Str.ofString "_law_at"), (PySem.Str.ofString "_law_house"), (PySem.Str.ofString "_law_turn"), (PySem.Str.ofString "_law_due"), (PySem.Str.ofString "_law_to")] (PySem.Str.ofString "_law_row_right") (defScope s__law_row_right) T.f__law_row_right cdv Ar out st H E).nox (defBody s__law_row_right) w__law_row_right :=
  fss_cons (fs_par (i := 1) (j := 2) rfl sc__law_row_right.nd rfl rfl (by decide) rfl rfl (fa_cons (fe_call (ok__law_some_names T) (gm__law_some_names P w base T) hG (rm.mono (by decide)) rfl T.g__law_some_names T.F__law_some_names.kp (b__law_some_names T) pass0 (fa_cons (fe_var (pv 0)) (fa_cons (fe_int) (fa_nil)))) (fa_cons (fe_op op_addAll g_add (fe_int) (fe_call (ok__law_pick T) (gm__law_pick P w base T) hG (rm.mono (by decide)) rfl T.g__law_pick T.F__law_pick.kp (b__law_pick T) pass0 (fa_cons (fe_var (pv 0)) (fa_cons (fe_int) (fa_nil))))) (fa_nil))) rfl) (fss_cons (fs_set (i := 3) (fe_call (ok__law_some_parts T) (gm__law_some_parts P w base T) hG (rm.mono (by decide)) rfl T.g__law_some_parts T.F__law_some_parts.kp (b__law_some_parts T) pass0 (fa_cons (fe_var (pv 0)) (fa_cons (fe_slice sl_all g_sl (fe_var (pv 1)) (fo_none) (fo_some (fe_op op_addAll g_add (fe_int) (fe_call (ok__law_pick T) (gm__law_pick P w base T) hG (rm.mono (by decide)) rfl T.g__law_pick T.F__law_pick.kp (b__law_pick T) pass0 (fa_cons (fe_var (pv 0)) (fa_cons (fe_int) (fa_nil))))))) (fa_nil)))) sc__law_row_right.nd rfl (Or.inl rfl)) (fss_cons (fs_par (i := 4) (j := 5) rfl sc__law_row_right.nd rfl rfl (by decide) rfl rfl (fa_cons (fe_slice sl_all g_sl (fe_var (pv 1)) (fo_some (fe_int)) (fo_some (fe_op op_addAll g_add (fe_int) (fe_var (pv 2))))) (fa_cons (fe_ix (ix_all (hu1 rm)) g_ixA (fe_var (pv 1)) (fe_call (ok__law_pick T) (gm__law_pick P w base T) hG (rm.mono (by decide)) rfl T.g__law_pick T.F__law_pick.kp (b__law_pick T) pass0 (fa_cons (fe_var (pv 0)) (fa_cons (fe_callB (id := default) call_lenA g_lenA rfl T.n_len (by decide +kernel) (fa_cons (fe_var (pv 3)) (fa_nil))) (fa_nil)))) (fun _ _ => rfl)) (fa_nil))) rfl) (fss_cons (fs_par (i := 6) (j := 7) rfl sc__law_row_right.nd rfl rfl (by decide) rfl rfl (fa_cons (fe_tup (fa_cons (fe_var (pv 5)) (fa_cons (fe_int) (fa_cons (fe_ix (ix_all (hu1 rm)) g_ixA (fe_var (pv 1)) (fe_int) (fun _ _ => rfl)) (fa_cons (fe_ix (ix_all (hu1 rm)) g_ixA (fe_var (pv 1)) (fe_int) (fun _ _ => rfl)) (fa_nil)))))) (fa_cons (fe_op op_addAll g_add (fe_int) (fe_call (ok__law_pick T) (gm__law_pick P w base T) hG (rm.mono (by decide)) rfl T.g__law_pick T.F__law_pick.kp (b__law_pick T) pass0 (fa_cons (fe_var (pv 0)) (fa_cons (fe_int) (fa_nil))))) (fa_nil))) rfl) (fss_cons (fs_par3 (i := 8) (j := 9) (l := 10) rfl sc__law_row_right.nd rfl rfl rfl (by decide) (by decide) (by decide) rfl rfl rfl (fa_cons (fe_call (ok__law_shuffled T) (gm__law_shuffled P w base T) hG (rm.mono (by decide)) rfl T.g__law_shuffled T.F__law_shuffled.kp (b__law_shuffled T) pass0 (fa_cons (fe_var (pv 0)) (fa_cons (fe_call (ok__law_rising T) (gm__law_rising P w base T) hG (rm.mono (by decide)) rfl T.g__law_rising T.F__law_rising.kp (b__law_rising T) pass0 (fa_cons (fe_var (pv 0)) (fa_cons (fe_op op_sub g_sub (fe_var (pv 2)) (fe_int)) (fa_nil)))) (fa_nil)))) (fa_cons (fe_lst (fa_nil)) (fa_cons (fe_var (pv 2)) (fa_nil)))) rfl) (fss_cons (fs_if (ft_cmp (op_eqA (hu64 rm)) g_eq (fe_call (ok__law_pick T) (gm__law_pick P w base T) hG (rm.mono (by decide)) rfl T.g__law_pick T.F__law_pick.kp (b__law_pick T) pass0 (fa_cons (fe_var (pv 0)) (fa_cons (fe_int) (fa_nil)))) (fe_int) (nomark _)) (fss_one (fs_set (i := 10) (fe_call (ok__law_pick T) (gm__law_pick P w base T) hG (rm.mono (by decide)) rfl T.g__law_pick T.F__law_pick.kp (b__law_pick T) pass0 (fa_cons (fe_var (pv 0)) (fa_cons (fe_op op_sub g_sub (fe_var (pv 2)) (fe_int)) (fa_nil)))) sc__law_row_right.nd rfl (Or.inl rfl))) (fss_nil)) (fss_cons (fs_for PassesOwn.never rfl (fi_range1 rfl T.n_range (fa_cons (fe_op op_sub g_sub (fe_var (pv 2)) (fe_int)) (fa_nil))) (fg_name (pg_name (i := 11) sc__law_row_right.nd rfl (Or.inl rfl))) (fss_cons (fs_set (i := 12) (fe_call (ok__law_parts_over T) (gm__law_parts_over P w base T) hG (rm.mono (by decide)) rfl T.g__law_parts_over T.F__law_parts_over.kp (b__law_parts_over T) pass0 (fa_cons (fe_var (pv 3)) (fa_cons (fe_ix (ix_all (hu1 rm)) g_ixA (fe_var (pv 6)) (fe_int) (fun _ _ => rfl)) (fa_nil)))) sc__law_row_right.nd rfl (Or.inl rfl)) (fss_cons (fs_set (i := 13) (fe_lst (fa_cons (fe_ix (ix_all (hu1 rm)) g_ixA (fe_var (pv 12)) (fe_call (ok__law_pick T) (gm__law_pick P w base T) hG (rm.mono (by decide)) rfl T.g__law_pick T.F__law_pick.kp (b__law_pick T) pass0 (fa_cons (fe_var (pv 0)) (fa_cons (fe_callB (id := default) call_lenA g_lenA rfl T.n_len (by decide +kernel) (fa_cons (fe_var (pv 12)) (fa_nil))) (fa_nil)))) (fun _ _ => rfl)) (fa_cons (fe_op op_sub g_sub (fe_var (pv 7)) (fe_call (ok__law_pick T) (gm__law_pick P w base T) hG (rm.mono (by decide)) rfl T.g__law_pick T.F__law_pick.kp (b__law_pick T) pass0 (fa_cons (fe_var (pv 0)) (fa_cons (fe_int) (fa_nil))))) (fa_cons (fe_op op_addAll g_add (fe_var (pv 7)) (fe_call (ok__law_pick T) (gm__law_pick P w base T) hG (rm.mono (by decide)) rfl T.g__law_pick T.F__law_pick.kp (b__law_pick T) pass0 (fa_cons (fe_var (pv 0)) (fa_cons (fe_int) (fa_nil))))) (fa_cons (fe_int) (fa_nil)))))) sc__law_row_right.nd rfl (Or.inl rfl)) (fss_cons (fs_if (ft_cmp (op_eqA (hu64 rm)) g_eq (fe_var (pv 11)) (fe_var (pv 10)) (nomark _)) (fss_cons (fs_set (i := 14) (fe_call (ok__law_pick T) (gm__law_pick P w base T) hG (rm.mono (by decide)) rfl T.g__law_pick T.F__law_pick.kp (b__law_pick T) pass0 (fa_cons (fe_var (pv 0)) (fa_cons (fe_int) (fa_nil)))) sc__law_row_right.nd rfl (Or.inl rfl)) (fss_one (fs_set (i := 13) (fe_ix (ix_all (hu1 rm)) g_ixA (fe_lst (fa_cons (fe_lst (fa_cons (fe_ix (ix_all (hu1 rm)) g_ixA (fe_var (pv 13)) (fe_int) (fun _ _ => rfl)) (fa_cons (fe_op op_addAll g_add (fe_var (pv 7)) (fe_int)) (fa_cons (fe_op op_addAll g_add (fe_var (pv 7)) (fe_int)) (fa_cons (fe_int) (fa_nil)))))) (fa_cons (fe_lst (fa_cons (fe_ix (ix_all (hu1 rm)) g_ixA (fe_var (pv 13)) (fe_int) (fun _ _ => rfl)) (fa_cons (fe_int) (fa_cons (fe_op op_sub g_sub (fe_var (pv 7)) (fe_int)) (fa_cons (fe_int) (fa_nil)))))) (fa_cons (fe_lst (fa_cons (fe_ix (ix_all (hu1 rm)) g_ixA (fe_var (pv 13)) (fe_int) (fun _ _ => rfl)) (fa_cons (fe_int) (fa_cons (fe_int) (fa_cons (fe_int) (fa_nil)))))) (fa_nil))))) (fe_var (pv 14)) (fun _ _ => rfl)) sc__law_row_right.nd rfl (Or.inl rfl)))) (fss_nil)) (fss_one (fs_expr (fe_mut PySem.F.plainAttrs_list PySem.F.slot_list_append PySem.F.type_list_append mt_append g_append (fe_var (pv 9)) (fa_cons (fe_op op_addAll g_add (fe_tup (fa_cons (fe_ix (ix_all (hu1 rm)) g_ixA (fe_var (pv 8)) (fe_var (pv 11)) (fun _ _ => rfl)) (fa_cons (fe_ix (ix_all (hu1 rm)) g_ixA (fe_var (pv 4)) (fe_var (pv 11)) (fun _ _ => rfl)) (fa_cons (fe_ix (ix_all (hu1 rm)) g_ixA (fe_var (pv 4)) (fe_op op_addAll g_add (fe_var (pv 11)) (fe_int)) (fun _ _ => rfl)) (fa_nil))))) (fe_callTy call_tupN g_tup1 rfl T.n_tuple (by decide +kernel) (fa_cons (fe_var (pv 13)) (fa_nil)))) (fa_nil))))))))) (fss_cons (fs_set (i := 15) (fe_call (ok__law_house_of T) (gm__law_house_of P w base T) hG (rm.mono (by decide)) rfl T.g__law_house_of T.F__law_house_of.kp (b__law_house_of T) pass0 (fa_cons (fe_var (pv 3)) (fa_cons (fe_callBT (cr_sort rfl (hu130 rm)) g_sort rfl T.n_sorted (by decide +kernel) (fa_cons (fe_var (pv 9)) (fa_nil))) (fa_nil)))) sc__law_row_right.nd rfl (Or.inl rfl)) (fss_cons (fs_for PassesOwn.never rfl (fi_range1 rfl T.n_range (fa_cons (fe_int) (fa_nil))) (fg_name (pg_name (i := 16) sc__law_row_right.nd rfl (Or.inl rfl))) (fss_cons (fs_par (i := 14) (j := 18) rfl sc__law_row_right.nd rfl rfl (by decide) rfl rfl (fa_cons (fe_call (ok__law_pick T) (gm__law_pick P w base T) hG (rm.mono (by decide)) rfl T.g__law_pick T.F__law_pick.kp (b__law_pick T) pass0 (fa_cons (fe_var (pv 0)) (fa_cons (fe_var (pv 2)) (fa_nil)))) (fa_cons (fe_call (ok__law_pick T) (gm__law_pick P w base T) hG (rm.mono (by decide)) rfl T.g__law_pick T.F__law_pick.kp (b__law_pick T) pass0 (fa_cons (fe_var (pv 0)) (fa_cons (fe_var (pv 2)) (fa_nil)))) (fa_nil))) rfl) (fss_cons (fs_set (i := 17) (fe_if (FW.ft (fw_and (ft_cmp op_leA (g_cmp _ _) (fe_var (pv 14)) (fe_var (pv 18)) (nomark _)) (fw_and1 (ft_not (ft_chain op_leA op_ltA (g_cmp _ _) (g_cmp _ _) (fe_var (pv 14)) (fe_var (pv 10)) (fe_var (pv 18))))))) (fe_slice sl_all g_sl (fe_var (pv 8)) (fo_some (fe_var (pv 14))) (fo_some (fe_var (pv 18)))) (fe_non)) sc__law_row_right.nd rfl (Or.inl rfl)) (fss_one (fs_if (ft_not (ft_truth (fe_callR (ok__law_same T 12 (by decide)) (gm__law_same P w base T 12 (by decide)) hG (rm.mono (by decide)) rfl T.g__law_same T.F__law_same.kp (b__law_same T) pass0 (fa_cons (fe_call (ok_row_of T) (gm_row_of P w base T) hG (rm.mono (by decide)) rfl T.g_row_of T.F_row_of.kp (b_row_of T) pass0 (fa_cons (fe_var (pv 15)) (fa_cons (fe_var (pv 6)) (fa_cons (fe_ix (ix_all (hu1 rm)) g_ixA (fe_var (pv 4)) (fe_var (pv 14)) (fun _ _ => rfl)) (fa_cons (fe_ix (ix_all (hu1 rm)) g_ixA (fe_var (pv 4)) (fe_var (pv 18)) (fun _ _ => rfl)) (fa_cons (fe_var (pv 7)) (fa_nil))))))) (fa_cons (fe_var (pv 17)) (fa_nil)))))) (fss_one (fs_ret (fe_bl))) (fss_nil)))))) (fss_cons (fs_if (ft_not (ft_truth (fe_callR (ok__law_same T 12 (by decide)) (gm__law_same P w base T 12 (by decide)) hG (rm.mono (by decide)) rfl T.g__law_same T.F__law_same.kp (b__law_same T) pass0 (fa_cons (fe_call (ok_row_of T) (gm_row_of P w base T) hG (rm.mono (by decide)) rfl T.g_row_of T.F_row_of.kp (b_row_of T) pass0 (fa_cons (fe_var (pv 15)) (fa_cons (fe_var (pv 6)) (fa_cons (fe_ix (ix_all (hu1 rm)) g_ixA (fe_var (pv 1)) (fe_int) (fun _ _ => rfl)) (fa_cons (fe_ix (ix_all (hu1 rm)) g_ixA (fe_var (pv 1)) (fe_int) (fun _ _ => rfl)) (fa_cons (fe_var (pv 7)) (fa_nil))))))) (fa_cons (fe_lst (fa_nil)) (fa_nil)))))) (fss_one (fs_ret (fe_bl))) (fss_nil)) (fss_cons (fs_if (ft_cmp op_isNotA (g_is true) (fe_call (ok_row_of T) (gm_row_of P w base T) hG (rm.mono (by decide)) rfl T.g_row_of T.F_row_of.kp (b_row_of T) pass0 (fa_cons (fe_var (pv 15)) (fa_cons (fe_var (pv 6)) (fa_cons (fe_ix (ix_all (hu1 rm)) g_ixA (fe_var (pv 1)) (fe_int) (fun _ _ => rfl)) (fa_cons (fe_ix (ix_all (hu1 rm)) g_ixA (fe_var (pv 4)) (fe_int) (fun _ _ => rfl)) (fa_cons (fe_var (pv 7)) (fa_nil))))))) (fe_non) (nomark _)) (fss_one (fs_ret (fe_bl))) (fss_nil)) (fss_one (fs_ret (fe_cmp op_isA (g_is false) (fe_call (ok_row_of T) (gm_row_of P w base T) hG (rm.mono (by decide)) rfl T.g_row_of T.F_row_of.kp (b_row_of T) pass0 (fa_cons (fe_var (pv 15)) (fa_cons (fe_var (pv 6)) (fa_cons (fe_ix (ix_all (hu1 rm)) g_ixA (fe_var (pv 4)) (fe_int) (fun _ _ => rfl)) (fa_cons (fe_ix (ix_all (hu1 rm)) g_ixA (fe_var (pv 1)) (fe_int) (fun _ _ => rfl)) (fa_cons (fe_var (pv 7)) (fa_nil))))))) (fe_non) (nomark _))))))))))))))
theorem ok__law_row_right (T : Fx K mg) : FnG P w K mg base CX0 13 T.f__law_row_right T.d__law_row_right [(PySem.Str.ofString "_law_left")] (spOf K [.io] g__law_row_right) :=
  FnG.of_data T.F__law_row_right sc__law_row_right rfl (fun cdv Ar out st H E hG rm => (fss__law_row_right T cdv Ar out st H E hG rm).nox) (fun _ _ _ q => q)
theorem gm__law_row_right (P : Program) (w : World) (base : Heap) (T : Fx K mg) : ∀ ds Q Q', (∀ r o, Q r o → Q' r o) → g__law_row_right ds Q → g__law_row_right ds Q' := fun ds Q Q' h q =>
  (fss__law_row_right (P := P) (w := w) (base := base) T .none callerA [] {} (fun _ => none) E0 rfl ((⟨rfl, by decide, by decide⟩ : Room 13 callerA).deeper _)).mono _ _ _ (ends_le h) q
theorem b_law (T : Fx K mg) : Binds K T.d_law [(PySem.Str.ofString "_law_script")] [] := T.F_law.bindsN fun _ _ _ _ _ _ us hl => match us, hl with | [_], _ => rfl
theorem sc_law : FnScope [(PySem.Str.ofString "_law_script"), (PySem.Str.ofString "_law_k"), (PySem.Str.ofString "_law_left")] [(PySem.Str.ofString "_law_script")] (defScope s_law) := ⟨rfl, rfl, rfl, by decide +kernel, rfl, by decide +kernel, by decide +kernel⟩
theorem fss_law (T : Fx K mg) (cdv : Value) (Ar : Around) (out : List Env) (st : Shared) (H : Hp) (E : XK) (hG : (Ar.deeper (envOfC (PySem.Str.ofString "law") (defScope s_law) st.heap.objs.size T.f_law cdv)).guards = some []) (rm : Room 13 (Ar.deeper (envOfC (PySem.Str.ofString "law") (defScope s_law) st.heap.objs.size T.f_law cdv))) :
    FSs (cxOf CX0 P w K mg base [(PySem.Str.ofString "_law_script"), (PySem.Str.ofString "_law_k"), (PySem.Str.ofString "_law_left")] (PySem.Str.ofString "law") (defScope s_law) T.f_law cdv Ar out st H E).nox (defBody s_law) w_law :=
  fss_cons (fs_for PassesOwn.never rfl (fi_range1 rfl T.n_range (fa_cons (fe_op op_addAll g_add (fe_int) (fe_callB (id := default) (call_min2 rfl) (g_i2 _) rfl T.n_min (by decide +kernel) (fa_cons (fe_int) (fa_cons (fe_lenSc (pv 0) rfl T.n_len) (fa_nil))))) (fa_nil))) (fg_name (pg_name (i := 1) sc_law.nd rfl (Or.inl rfl))) (fss_cons (fs_set (i := 2) (fe_call (ok__law_drawn_from T) (gm__law_drawn_from P w base T) hG (rm.mono (by decide)) rfl T.g__law_drawn_from T.F__law_drawn_from.kp (b__law_drawn_from T) pass0 (fa_cons (fe_var (pv 0)) (fa_cons (fe_var (pv 1)) (fa_nil)))) sc_law.nd rfl (Or.inl rfl)) (fss_one (fs_if (FW.ft (fw_or (ft_not (ft_truth (fe_call (ok__law_row_right T) (gm__law_row_right P w base T) hG (rm.mono (by decide)) rfl T.g__law_row_right T.F__law_row_right.kp (b__law_row_right T) pass0 (fa_cons (fe_var (pv 2)) (fa_nil))))) (fw_or1 (ft_not (ft_truth (fe_call (ok__law_row_right T) (gm__law_row_right P w base T) hG (rm.mono (by decide)) rfl T.g__law_row_right T.F__law_row_right.kp (b__law_row_right T) pass0 (fa_cons (fe_var (pv 2)) (fa_nil)))))))) (fss_one (fs_ret (fe_bl))) (fss_nil))))) (fss_one (fs_ret (fe_bl)))
theorem ok_law (T : Fx K mg) : FnG P w K mg base CX0 14 T.f_law T.d_law [(PySem.Str.ofString "_law_script")] (spOf K [.sc] g_law) :=
  FnG.of_data T.F_law sc_law rfl (fun cdv Ar out st H E hG rm => (fss_law T cdv Ar out st H E hG rm).nox) (fun _ _ _ q => q)
theorem gm_law (P : Program) (w : World) (base : Heap) (T : Fx K mg) : ∀ ds Q Q', (∀ r o, Q r o → Q' r o) → g_law ds Q → g_law ds Q' := fun ds Q Q' h q =>
  (fss_law (P := P) (w := w) (base := base) T .none callerA [] {} (fun _ => none) E0 rfl ((⟨rfl, by decide, by decide⟩ : Room 14 callerA).deeper _)).mono _ _ _ (ends_le h) q
end
end K14
set_option Elab.async false
set_option linter.all false
set_option autoImplicit false
set_option maxRecDepth 100000
set_option maxHeartbeats 0
namespace K14
open PySem PySem.Spec PyProof.Rows L2 PL
/-! ### the head -/
def D__law_drawn_from : He.DefD := ⟨((PySem.Str.ofString "_law_drawn_from"), none), (PySem.Str.ofString "_law_drawn_from"), (PySem.Str.ofString "_law_drawn_from"), defArgs s__law_drawn_from, defBody s__law_drawn_from, defScope s__law_drawn_from, [], []⟩
def D__law_house_of : He.DefD := ⟨((PySem.Str.ofString "_law_house_of"), none), (PySem.Str.ofString "_law_house_of"), (PySem.Str.ofString "_law_house_of"), defArgs s__law_house_of, defBody s__law_house_of, defScope s__law_house_of, [], []⟩
def D__law_parts_over : He.DefD := ⟨((PySem.Str.ofString "_law_parts_over"), none), (PySem.Str.ofString "_law_parts_over"), (PySem.Str.ofString "_law_parts_over"), defArgs s__law_parts_over, defBody s__law_parts_over, defScope s__law_parts_over, [], []⟩
def D__law_mix : He.DefD := ⟨((PySem.Str.ofString "_law_mix"), none), (PySem.Str.ofString "_law_mix"), (PySem.Str.ofString "_law_mix"), defArgs s__law_mix, defBody s__law_mix, defScope s__law_mix, [], []⟩
def D__law_pick : He.DefD := ⟨((PySem.Str.ofString "_law_pick"), none), (PySem.Str.ofString "_law_pick"), (PySem.Str.ofString "_law_pick"), defArgs s__law_pick, defBody s__law_pick, defScope s__law_pick, [], []⟩
def D__law_rising : He.DefD := ⟨((PySem.Str.ofString "_law_rising"), none), (PySem.Str.ofString "_law_rising"), (PySem.Str.ofString "_law_rising"), defArgs s__law_rising, defBody s__law_rising, defScope s__law_rising, [], []⟩
def D__law_same : He.DefD := ⟨((PySem.Str.ofString "_law_same"), none), (PySem.Str.ofString "_law_same"), (PySem.Str.ofString "_law_same"), defArgs s__law_same, defBody s__law_same, defScope s__law_same, [], []⟩
def D__law_shuffled : He.DefD := ⟨((PySem.Str.ofString "_law_shuffled"), none), (PySem.Str.ofString "_law_shuffled"), (PySem.Str.ofString "_law_shuffled"), defArgs s__law_shuffled, defBody s__law_shuffled, defScope s__law_shuffled, [], []⟩
def D__law_some_names : He.DefD := ⟨((PySem.Str.ofString "_law_some_names"), none), (PySem.Str.ofString "_law_some_names"), (PySem.Str.ofString "_law_some_names"), defArgs s__law_some_names, defBody s__law_some_names, defScope s__law_some_names, [], []⟩
def D__law_some_parts : He.DefD := ⟨((PySem.Str.ofString "_law_some_parts"), none), (PySem.Str.ofString "_law_some_parts"), (PySem.Str.ofString "_law_some_parts"), defArgs s__law_some_parts, defBody s__law_some_parts, defScope s__law_some_parts, [], []⟩
def D_parts_over : He.DefD := ⟨((PySem.Str.ofString "parts_over"), none), (PySem.Str.ofString "parts_over"), (PySem.Str.ofString "parts_over"), defArgs s_parts_over, defBody s_parts_over, defScope s_parts_over, [], []⟩
def D_lets : He.DefD := ⟨((PySem.Str.ofString "lets"), none), (PySem.Str.ofString "lets"), (PySem.Str.ofString "lets"), defArgs s_lets, defBody s_lets, defScope s_lets, [], []⟩
def D_steps_on : He.DefD := ⟨((PySem.Str.ofString "steps_on"), none), (PySem.Str.ofString "steps_on"), (PySem.Str.ofString "steps_on"), defArgs s_steps_on, defBody s_steps_on, defScope s_steps_on, [], []⟩
def D_rows_from : He.DefD := ⟨((PySem.Str.ofString "rows_from"), none), (PySem.Str.ofString "rows_from"), (PySem.Str.ofString "rows_from"), defArgs s_rows_from, defBody s_rows_from, defScope s_rows_from, [], []⟩
def D_row_of : He.DefD := ⟨((PySem.Str.ofString "row_of"), none), (PySem.Str.ofString "row_of"), (PySem.Str.ofString "row_of"), defArgs s_row_of, defBody s_row_of, defScope s_row_of, [], []⟩
def D__law_row_right : He.DefD := ⟨((PySem.Str.ofString "_law_row_right"), none), (PySem.Str.ofString "_law_row_right"), (PySem.Str.ofString "_law_row_right"), defArgs s__law_row_right, defBody s__law_row_right, defScope s__law_row_right, [], []⟩
def D_law : He.DefD := ⟨((PySem.Str.ofString "law"), none), (PySem.Str.ofString "law"), (PySem.Str.ofString "law"), defArgs s_law, defBody s_law, defScope s_law, [], []⟩
def fn : List He.DefD := [D__law_drawn_from, D__law_house_of, D__law_parts_over, D__law_mix, D__law_pick, D__law_rising, D__law_same, D__law_shuffled, D__law_some_names, D__law_some_parts, D_parts_over, D_lets, D_steps_on, D_rows_from, D_row_of, D__law_row_right, D_law]
def fa : List He.Fa := [.glo (PySem.Str.ofString "_law_drawn_from"), .glo (PySem.Str.ofString "_law_house_of"), .glo (PySem.Str.ofString "_law_parts_over"), .glo (PySem.Str.ofString "_law_mix"), .glo (PySem.Str.ofString "_law_pick"), .glo (PySem.Str.ofString "_law_rising"), .glo (PySem.Str.ofString "_law_same"), .glo (PySem.Str.ofString "_law_shuffled"), .glo (PySem.Str.ofString "_law_some_names"), .glo (PySem.Str.ofString "_law_some_parts"), .glo (PySem.Str.ofString "parts_over"), .glo (PySem.Str.ofString "lets"), .glo (PySem.Str.ofString "steps_on"), .glo (PySem.Str.ofString "rows_from"), .glo (PySem.Str.ofString "row_of"), .glo (PySem.Str.ofString "_law_row_right"), .glo (PySem.Str.ofString "law"), .free (PySem.Str.ofString "abs"), .free (PySem.Str.ofString "all"), .free (PySem.Str.ofString "bool"), .free (PySem.Str.ofString "dict"), .free (PySem.Str.ofString "enumerate"), .free (PySem.Str.ofString "int"), .free (PySem.Str.ofString "isinstance"), .free (PySem.Str.ofString "len"), .free (PySem.Str.ofString "list"), .free (PySem.Str.ofString "min"), .free (PySem.Str.ofString "range"), .free (PySem.Str.ofString "sorted"), .free (PySem.Str.ofString "str"), .free (PySem.Str.ofString "tuple"), .free (PySem.Str.ofString "zip")]
abbrev R : PySem.W.OpenRow := PySem.W.OpenLaw.row PySem.Challenge.rw_rankseals_k14_rows_of_many_leaves
abbrev hk : PySem.W.Hook := He.hookD 4 fa fn
def ob (s : PySem.W.SharedT) : He.AlD := He.obsDG 4 fa fn (HandSHeadRun.getT s)
theorem ob_eq (s : PySem.W.SharedT) : ob s = hk.obs s.abs := He.obsDG_eq (HandSHeadRun.getT_eq s)
theorem run (w : World) : HandSHeadRun.RunEq R (PySem.W.view R.prog [19]) hk ob 1600 ["parts_over", "lets", "steps_on", "rows_from", "row_of", "_law_mix", "_law_drawn_from", "_law_pick", "_law_same", "_law_some_names", "_law_shuffled", "_law_some_parts", "_law_parts_over", "_law_rising", "_law_house_of", "_law_row_right"] w := by
  intro os
  kernel_rfl
theorem facts {P : Program} {w : World} {K : PySem.W.Frag} {h : Heap} {mg : Str → Option Value} {f : Addr} (X : K.In h) (G : h.Ns mainGlobals mg) (hfa : mg ("law" : Str) = some (.ref f)) (c : He.SaysD fa fn K) :
    ∃ fd : FuncData, (∀ (s : Shared) (v : Value), BindsTo s fd ⟨[v], []⟩ [((PySem.Str.ofString "_law_script"), v)]) ∧ ∀ base : Heap, K.In base → base.Ns mainGlobals mg → FnG P w K mg base CX0 14 f fd [(PySem.Str.ofString "_law_script")] (spLaw K g_law) := by
  obtain ⟨d0, F0⟩ := c.def_ 0 (d := D__law_drawn_from) rfl
  obtain ⟨d1, F1⟩ := c.def_ 1 (d := D__law_house_of) rfl
  obtain ⟨d2, F2⟩ := c.def_ 2 (d := D__law_parts_over) rfl
  obtain ⟨d3, F3⟩ := c.def_ 3 (d := D__law_mix) rfl
  obtain ⟨d4, F4⟩ := c.def_ 4 (d := D__law_pick) rfl
  obtain ⟨d5, F5⟩ := c.def_ 5 (d := D__law_rising) rfl
  obtain ⟨d6, F6⟩ := c.def_ 6 (d := D__law_same) rfl
  obtain ⟨d7, F7⟩ := c.def_ 7 (d := D__law_shuffled) rfl
  obtain ⟨d8, F8⟩ := c.def_ 8 (d := D__law_some_names) rfl
  obtain ⟨d9, F9⟩ := c.def_ 9 (d := D__law_some_parts) rfl
  obtain ⟨d10, F10⟩ := c.def_ 10 (d := D_parts_over) rfl
  obtain ⟨d11, F11⟩ := c.def_ 11 (d := D_lets) rfl
  obtain ⟨d12, F12⟩ := c.def_ 12 (d := D_steps_on) rfl
  obtain ⟨d13, F13⟩ := c.def_ 13 (d := D_rows_from) rfl
  obtain ⟨d14, F14⟩ := c.def_ 14 (d := D_row_of) rfl
  obtain ⟨d15, F15⟩ := c.def_ 15 (d := D__law_row_right) rfl
  obtain ⟨d16, F16⟩ := c.def_ 16 (d := D_law) rfl
  have e := hfa.symm.trans (He.glo_ok X G (c.fact 16 (f := .glo "law") rfl))
  cases e
  let T : Fx K mg := ⟨_, d0, F0, He.glo_ok X G (c.fact 0 (f := .glo (PySem.Str.ofString "_law_drawn_from")) rfl), _, d1, F1, He.glo_ok X G (c.fact 1 (f := .glo (PySem.Str.ofString "_law_house_of")) rfl), _, d2, F2, He.glo_ok X G (c.fact 2 (f := .glo (PySem.Str.ofString "_law_parts_over")) rfl), _, d3, F3, He.glo_ok X G (c.fact 3 (f := .glo (PySem.Str.ofString "_law_mix")) rfl), _, d4, F4, He.glo_ok X G (c.fact 4 (f := .glo (PySem.Str.ofString "_law_pick")) rfl), _, d5, F5, He.glo_ok X G (c.fact 5 (f := .glo (PySem.Str.ofString "_law_rising")) rfl), _, d6, F6, He.glo_ok X G (c.fact 6 (f := .glo (PySem.Str.ofString "_law_same")) rfl), _, d7, F7, He.glo_ok X G (c.fact 7 (f := .glo (PySem.Str.ofString "_law_shuffled")) rfl), _, d8, F8, He.glo_ok X G (c.fact 8 (f := .glo (PySem.Str.ofString "_law_some_names")) rfl), _, d9, F9, He.glo_ok X G (c.fact 9 (f := .glo (PySem.Str.ofString "_law_some_parts")) rfl), _, d10, F10, He.glo_ok X G (c.fact 10 (f := .glo (PySem.Str.ofString "parts_over")) rfl), _, d11, F11, He.glo_ok X G (c.fact 11 (f := .glo (PySem.Str.ofString "lets")) rfl), _, d12, F12, He.glo_ok X G (c.fact 12 (f := .glo (PySem.Str.ofString "steps_on")) rfl), _, d13, F13, He.glo_ok X G (c.fact 13 (f := .glo (PySem.Str.ofString "rows_from")) rfl), _, d14, F14, He.glo_ok X G (c.fact 14 (f := .glo (PySem.Str.ofString "row_of")) rfl), _, d15, F15, He.glo_ok X G (c.fact 15 (f := .glo (PySem.Str.ofString "_law_row_right")) rfl), _, d16, F16, He.glo_ok X G (c.fact 16 (f := .glo (PySem.Str.ofString "law")) rfl), He.free_ok X G (c.fact 17 (f := .free (PySem.Str.ofString "abs")) rfl), He.free_ok X G (c.fact 18 (f := .free (PySem.Str.ofString "all")) rfl), He.free_ok X G (c.fact 19 (f := .free (PySem.Str.ofString "bool")) rfl), He.free_ok X G (c.fact 20 (f := .free (PySem.Str.ofString "dict")) rfl), He.free_ok X G (c.fact 21 (f := .free (PySem.Str.ofString "enumerate")) rfl), He.free_ok X G (c.fact 22 (f := .free (PySem.Str.ofString "int")) rfl), He.free_ok X G (c.fact 23 (f := .free (PySem.Str.ofString "isinstance")) rfl), He.free_ok X G (c.fact 24 (f := .free (PySem.Str.ofString "len")) rfl), He.free_ok X G (c.fact 25 (f := .free (PySem.Str.ofString "list")) rfl), He.free_ok X G (c.fact 26 (f := .free (PySem.Str.ofString "min")) rfl), He.free_ok X G (c.fact 27 (f := .free (PySem.Str.ofString "range")) rfl), He.free_ok X G (c.fact 28 (f := .free (PySem.Str.ofString "sorted")) rfl), He.free_ok X G (c.fact 29 (f := .free (PySem.Str.ofString "str")) rfl), He.free_ok X G (c.fact 30 (f := .free (PySem.Str.ofString "tuple")) rfl), He.free_ok X G (c.fact 31 (f := .free (PySem.Str.ofString "zip")) rfl)⟩
  have b := FunD.bindsA (ps := [(PySem.Str.ofString "_law_script")]) F16 fun _ _ _ _ _ _ us hl => match us, hl with | [_], _ => rfl
  exact ⟨d16, fun s v => b s [v] rfl, fun base _ _ => ok_law T⟩
end K14
set_option Elab.async false
set_option linter.all false
set_option autoImplicit false
set_option maxRecDepth 100000
set_option maxHeartbeats 4000000
namespace K14
open PySem PySem.Spec PyProof.Rows L2 PL
local macro_rules
  | `(tactic| push_cast [$xs,*]) => `(tactic| simp -dsimp -implicitDefEqProofs only [$xs,*, ↓w2_eq, ↓wT_eq, ↓wChain_eq, ↓wTru_eq, ↓wAndV_eq, ↓wOrV_eq, ↓wNotV_eq, ↓wNeg_eq, ↓wPart_eq, ↓wSl_eq, ↓wN_eq, ↓wM_eq, ↓wMut_eq, ↓wTup_eq, ↓wLst_eq, ↓wCall_eq, ↓wGTup_eq, ↓wGCons_eq, ↓wGSub_eq, ↓wIsi_eq, ↓wIsi2_eq, ↓wIt_eq, ↓wRng1_eq, ↓wRng2_eq, ↓wLenSc_eq, ↓wIxSc_eq, ↓wPar_eq, ↓asgn_eq, ↓asgn_fz, ↓asgn_ow, ↓asgn_loc, ↓retR_fz, ↓retR_ow, ↓retR_loc, ↓wFor_eq, ↓wLc_eq, ↓wVar_eq, ↓wC_eq, ↓wNil_eq, ↓wCons_eq, ↓wAndT_eq, ↓wOrT_eq, ↓wNotT_eq, ↓wIfE_eq, ↓wNoPart_eq, ↓wYes_eq, ↓wNext_eq, ↓wBreak_eq, ↓wCont_eq, ↓wSeq_eq, ↓wDrop_eq, ↓wRet_eq, ↓wRetN_eq, ↓wIf_eq, ↓wAsg_eq, ↓wGNil_eq, ↓gOfB_eq, ↓endsF_nx, ↓endsF_rt, ↓bnd_some, ↓bnd_none, ↓ind_int, ↓tst_bool, ↓tsto_bool, ↓locR_loc, ↓tupR_tup, ↓cns_cons, ↓two_two, ↓ints1_int, ↓ints2_int, ↓g1_eq, ↓g2_eq, ↓gEq_eq, ↓gNe_eq, ↓gRepr_eq, ↓gIn_one, ↓gIs_bb, ↓gIs_none, ↓gIn_list, ↓gIn_tuple, ↓gSl_list, ↓gSl_tuple, ↓gSl_str, ↓gIx_list, ↓gIx_tuple, ↓gIx_str, ↓gSetL_eq, ↓gSum_eq, ↓gBools_eq, ↓gJoin_eq, ↓gAdd.eq_1, ↓gAdd.eq_2, ↓gAdd.eq_3, ↓gAdd.eq_4, ↓PL.gSub.eq_1, ↓gMod.eq_1, ↓gDiv.eq_1, ↓gPow.eq_1, ↓gMul.eq_1, ↓gMul.eq_2, ↓gMul.eq_3, ↓gCmp.eq_1, ↓gCmp.eq_2, ↓gLen.eq_1, ↓gLen.eq_2, ↓gLen.eq_3, ↓gAbs.eq_1, ↓gInt.eq_1, ↓gInt.eq_2, ↓gI2.eq_1, ↓gTup1.eq_1, ↓gTup1.eq_2, ↓gLst1.eq_1, ↓gLst1.eq_2, ↓gAppend.eq_1, ↓gCount.eq_1, ↓gUpper.eq_1, ↓wGet1_eq, ↓wGet2_eq, ↓wNewK_eq, ↓wNewT_eq, ↓wTupO_eq, ↓wCallR_eq, ↓wParN_eq, ↓wPar3_eq, ↓wGTupL_eq, ↓wDisp1_eq, ↓wForK_eq, ↓gPopAt_0, ↓gStr_l, ↓gStr_t, ↓gLenA_l, ↓gLenA_t, ↓gLenA_s, ↓gLenA_d, ↓gMulT_eq, ↓gLtP_t, ↓gLtP_i, ↓gLtP_s, ↓asgnAll_nil, ↓asgnAll_cons, ↓wGSubT_eq, ↓wZip_eq, ↓gIxA_list, ↓gIxA_tuple, ↓gIxA_str, ↓gIxA_dict, ↓gInA_list, ↓gInA_tuple, ↓gInA_str, ↓gInA_dict, ↓gSetD_dict, ↓gDict1_tuple, ↓gDict1_list, ↓gReverse_list, ↓gExtend_list, ↓gLst2_list, ↓gLst2_tuple, ↓gLst2_dict, ↓gLst3_str, ↓gLst3_list, ↓gLst3_tuple, ↓gLst3_dict, ↓wRngDn_eq, ↓ints3_eq, ↓fzd_fz, ↓dcO_dict, ↓wIc_eq, ↓wItB_eq, ↓lstO_list, isK, fzO_list, fzO_dict, fzO_ts, fzO_ti, fzO_tl, eqv_int, eqv_str, eqv_bool, eqv_ns, eqv_sn, eqv_nn, eqv_ni, eqv_in, eqv_si, eqv_is, eqOk_int, eqOk_str, eqOk_bool, eqOk_ns, eqOk_sn, eqOk_nn, eqOk_ni, eqOk_in, eqOk_si, eqOk_is, beq_iff_eq, ixN_0, ixN_1, ixN_2, ixN_3, ixN_4, ixN_5, ixN_6, ixN_7, atI_0, atI_1, atI_2, atI_3, atI_4, atI_5, atI_6, atI_7, rVar, lookAll, ownAt?, look, frz, frzAll, Out.res, okSlot_eq, okO_some, okS_fz, okS_ow, okS_sc, okS_none, wipeE, restE, prep, back, lent, lentOk, outsOf, outsFrom, argE, Res.good, isTy, tyN, noDict, itD, scAt, owA, fixR, isL, isS, seqOf, truth, truOk, okF, nt, unp, unpL, dkAt, lookR, lookRs, okR, isScal, dicAt, dicOf, fixRs, keyT, List.getElem?_cons_zero, List.getElem?_cons_succ, List.set_cons_zero, List.set_cons_succ, List.replicate_zero, List.replicate_succ, List.cons_append, List.nil_append, List.append_nil, Option.some.injEq, Prod.mk.injEq, PyData.int.injEq, PyData.list.injEq, PyData.str.injEq, PyData.bool.injEq, PyData.tuple.injEq, Res.loc.injEq, Res.fz.injEq, Res.ow.injEq, and_true, true_and, List.length_cons, List.length_nil, if_true, if_false, reduceIte, Bool.false_eq_true, Option.map_some, List.cons.injEq, List.mem_cons, List.not_mem_nil, or_false, forall_eq, forall_eq_or_imp, not_true_eq_false, not_false_eq_true, Bool.not_true, Bool.not_false, forall_const, List.nodup_nil, List.nodup_cons, Option.isSome_some, Option.isSome_none, Option.map_none, Option.bind_some, Option.bind_none, decide_eq_true_eq, Nat.reduceLeDiff, Nat.reduceAdd, Nat.zero_add, exists_eq', Int.reduceLT, Int.reduceLE, Int.reduceNeg, Int.reducePow, Nat.reducePow, Int.reduceToNat, Int.reduceAdd, Int.reduceMul, Nat.reduceMul, Nat.reduceEqDiff, Nat.reduceSub, String.reduceBEq, beq_self_eq_true, Bool.and_true, Bool.true_and, Bool.or_true, Bool.true_or, Bool.or_false, Bool.false_or, Bool.and_false, Bool.false_and, Bool.not_eq_true, Bool.not_eq_false, reduceCtorEq])
  | `(tactic| push_cast) => `(tactic| simp -dsimp -implicitDefEqProofs only [↓w2_eq, ↓wT_eq, ↓wChain_eq, ↓wTru_eq, ↓wAndV_eq, ↓wOrV_eq, ↓wNotV_eq, ↓wNeg_eq, ↓wPart_eq, ↓wSl_eq, ↓wN_eq, ↓wM_eq, ↓wMut_eq, ↓wTup_eq, ↓wLst_eq, ↓wCall_eq, ↓wGTup_eq, ↓wGCons_eq, ↓wGSub_eq, ↓wIsi_eq, ↓wIsi2_eq, ↓wIt_eq, ↓wRng1_eq, ↓wRng2_eq, ↓wLenSc_eq, ↓wIxSc_eq, ↓wPar_eq, ↓asgn_eq, ↓asgn_fz, ↓asgn_ow, ↓asgn_loc, ↓retR_fz, ↓retR_ow, ↓retR_loc, ↓wFor_eq, ↓wLc_eq, ↓wVar_eq, ↓wC_eq, ↓wNil_eq, ↓wCons_eq, ↓wAndT_eq, ↓wOrT_eq, ↓wNotT_eq, ↓wIfE_eq, ↓wNoPart_eq, ↓wYes_eq, ↓wNext_eq, ↓wBreak_eq, ↓wCont_eq, ↓wSeq_eq, ↓wDrop_eq, ↓wRet_eq, ↓wRetN_eq, ↓wIf_eq, ↓wAsg_eq, ↓wGNil_eq, ↓gOfB_eq, ↓endsF_nx, ↓endsF_rt, ↓bnd_some, ↓bnd_none, ↓ind_int, ↓tst_bool, ↓tsto_bool, ↓locR_loc, ↓tupR_tup, ↓cns_cons, ↓two_two, ↓ints1_int, ↓ints2_int, ↓g1_eq, ↓g2_eq, ↓gEq_eq, ↓gNe_eq, ↓gRepr_eq, ↓gIn_one, ↓gIs_bb, ↓gIs_none, ↓gIn_list, ↓gIn_tuple, ↓gSl_list, ↓gSl_tuple, ↓gSl_str, ↓gIx_list, ↓gIx_tuple, ↓gIx_str, ↓gSetL_eq, ↓gSum_eq, ↓gBools_eq, ↓gJoin_eq, ↓gAdd.eq_1, ↓gAdd.eq_2, ↓gAdd.eq_3, ↓gAdd.eq_4, ↓PL.gSub.eq_1, ↓gMod.eq_1, ↓gDiv.eq_1, ↓gPow.eq_1, ↓gMul.eq_1, ↓gMul.eq_2, ↓gMul.eq_3, ↓gCmp.eq_1, ↓gCmp.eq_2, ↓gLen.eq_1, ↓gLen.eq_2, ↓gLen.eq_3, ↓gAbs.eq_1, ↓gInt.eq_1, ↓gInt.eq_2, ↓gI2.eq_1, ↓gTup1.eq_1, ↓gTup1.eq_2, ↓gLst1.eq_1, ↓gLst1.eq_2, ↓gAppend.eq_1, ↓gCount.eq_1, ↓gUpper.eq_1, ↓wGet1_eq, ↓wGet2_eq, ↓wNewK_eq, ↓wNewT_eq, ↓wTupO_eq, ↓wCallR_eq, ↓wParN_eq, ↓wPar3_eq, ↓wGTupL_eq, ↓wDisp1_eq, ↓wForK_eq, ↓gPopAt_0, ↓gStr_l, ↓gStr_t, ↓gLenA_l, ↓gLenA_t, ↓gLenA_s, ↓gLenA_d, ↓gMulT_eq, ↓gLtP_t, ↓gLtP_i, ↓gLtP_s, ↓asgnAll_nil, ↓asgnAll_cons, ↓wGSubT_eq, ↓wZip_eq, ↓gIxA_list, ↓gIxA_tuple, ↓gIxA_str, ↓gIxA_dict, ↓gInA_list, ↓gInA_tuple, ↓gInA_str, ↓gInA_dict, ↓gSetD_dict, ↓gDict1_tuple, ↓gDict1_list, ↓gReverse_list, ↓gExtend_list, ↓gLst2_list, ↓gLst2_tuple, ↓gLst2_dict, ↓gLst3_str, ↓gLst3_list, ↓gLst3_tuple, ↓gLst3_dict, ↓wRngDn_eq, ↓ints3_eq, ↓fzd_fz, ↓dcO_dict, ↓wIc_eq, ↓wItB_eq, ↓lstO_list, isK, fzO_list, fzO_dict, fzO_ts, fzO_ti, fzO_tl, eqv_int, eqv_str, eqv_bool, eqv_ns, eqv_sn, eqv_nn, eqv_ni, eqv_in, eqv_si, eqv_is, eqOk_int, eqOk_str, eqOk_bool, eqOk_ns, eqOk_sn, eqOk_nn, eqOk_ni, eqOk_in, eqOk_si, eqOk_is, beq_iff_eq, ixN_0, ixN_1, ixN_2, ixN_3, ixN_4, ixN_5, ixN_6, ixN_7, atI_0, atI_1, atI_2, atI_3, atI_4, atI_5, atI_6, atI_7, rVar, lookAll, ownAt?, look, frz, frzAll, Out.res, okSlot_eq, okO_some, okS_fz, okS_ow, okS_sc, okS_none, wipeE, restE, prep, back, lent, lentOk, outsOf, outsFrom, argE, Res.good, isTy, tyN, noDict, itD, scAt, owA, fixR, isL, isS, seqOf, truth, truOk, okF, nt, unp, unpL, dkAt, lookR, lookRs, okR, isScal, dicAt, dicOf, fixRs, keyT, List.getElem?_cons_zero, List.getElem?_cons_succ, List.set_cons_zero, List.set_cons_succ, List.replicate_zero, List.replicate_succ, List.cons_append, List.nil_append, List.append_nil, Option.some.injEq, Prod.mk.injEq, PyData.int.injEq, PyData.list.injEq, PyData.str.injEq, PyData.bool.injEq, PyData.tuple.injEq, Res.loc.injEq, Res.fz.injEq, Res.ow.injEq, and_true, true_and, List.length_cons, List.length_nil, if_true, if_false, reduceIte, Bool.false_eq_true, Option.map_some, List.cons.injEq, List.mem_cons, List.not_mem_nil, or_false, forall_eq, forall_eq_or_imp, not_true_eq_false, not_false_eq_true, Bool.not_true, Bool.not_false, forall_const, List.nodup_nil, List.nodup_cons, Option.isSome_some, Option.isSome_none, Option.map_none, Option.bind_some, Option.bind_none, decide_eq_true_eq, Nat.reduceLeDiff, Nat.reduceAdd, Nat.zero_add, exists_eq', Int.reduceLT, Int.reduceLE, Int.reduceNeg, Int.reducePow, Nat.reducePow, Int.reduceToNat, Int.reduceAdd, Int.reduceMul, Nat.reduceMul, Nat.reduceEqDiff, Nat.reduceSub, String.reduceBEq, beq_self_eq_true, Bool.and_true, Bool.true_and, Bool.or_true, Bool.true_or, Bool.or_false, Bool.false_or, Bool.and_false, Bool.false_and, Bool.not_eq_true, Bool.not_eq_false, reduceCtorEq])
theorem parts_over_ok {hp : List (Str × Str)} {rest : List D} {z : Str} {ps : List (Str × Str)} {Q : Res → List D → Prop} (hr : Rooted ps) (hpm : hp.Perm ps) (hl : ps.length ≤ 1000) (hQ : ∀ o, Q (.ow (.list ((over ps z).map .str))) o) : g_parts_over [.tuple (.tuple (hp.map pD) :: rest), .str z] Q := by
  push_cast [g_parts_over, w_parts_over, w_parts_over_0]
  have hnd : (hp.map Prod.fst).Nodup := (hpm.map _).nodup_iff.mpr hr.nd
  have hmg := merge_pD hnd
  refine bnd_mk (pairs_pD hp) ?_
  push_cast [hmg, w_parts_over_1, w_parts_over_2]
  refine while_inv (fun m e => ∃ (done : List Str) (y : Str), e = [some (.fz, .tuple (.tuple (hp.map pD) :: rest)), some (.fz, .str y), some (.ow, .dict (hp.map fun p => (PyData.str p.1, PyData.str p.2))), some (.ow, .list (done.map .str))] ∧ done ++ over ps y = over ps z ∧ m = (over ps y).length) _ ⟨[], z, rfl, rfl, rfl⟩ (fun m e hi => ?_)
  obtain ⟨done, y, rfl, hd, hm⟩ := hi
  have hlk : lookD (hp.map fun p => (PyData.str p.1, PyData.str p.2)) (.str y) = (lk ps y).map PyData.str := by
    rw [lookD_map (fun p : Str × Str => p.1) (fun p => PyData.str p.2), ← lk_perm hpm hr.nd]
    unfold lk
    rw [Option.map_map]; rfl
  have hko := keyOk_map (fun p : Str × Str => p.1) (fun p => PyData.str p.2) y hp
  have hlen := over_len ps z
  rw [← hd, List.length_append] at hlen
  push_cast [hlk, hko]
  by_cases hy : y ∈ ps.map Prod.fst
  · obtain ⟨p, hp', rfl⟩ := List.mem_map.mp hy
    rw [over_mem hr hp'] at hd hm
    have hlk2 := lk_mem hr.nd hp'
    push_cast [hlk2]
    refine ⟨fun e' => ∃ m', m' < m ∧ _, fun _ h => h, ?_⟩
    push_cast [b_parts_over_1, b_parts_over_1_0, b_parts_over_1_1, hlk, hlk2, hko]
    refine ⟨by rw [List.length_map]; omega, (over ps p.2).length, by rw [hm, List.length_cons]; omega, done ++ [p.1], p.2, by rw [List.map_append]; exact ⟨rfl, rfl⟩, by rw [List.append_assoc]; exact hd, rfl⟩
  · have hlk2 := lk_none.mpr hy
    rw [over_none hy, List.append_nil] at hd
    subst hd
    push_cast [hlk2, w_parts_over_3]
    exact hQ _
end K14
set_option Elab.async false
set_option linter.all false
set_option autoImplicit false
set_option maxRecDepth 100000
set_option maxHeartbeats 4000000
namespace K14
open PySem PySem.Spec PyProof.Rows L2 PL
local macro_rules
  | `(tactic| push_cast [$xs,*]) => `(tactic| simp -dsimp -implicitDefEqProofs only [$xs,*, ↓w2_eq, ↓wT_eq, ↓wChain_eq, ↓wTru_eq, ↓wAndV_eq, ↓wOrV_eq, ↓wNotV_eq, ↓wNeg_eq, ↓wPart_eq, ↓wSl_eq, ↓wN_eq, ↓wM_eq, ↓wMut_eq, ↓wTup_eq, ↓wLst_eq, ↓wCall_eq, ↓wGTup_eq, ↓wGCons_eq, ↓wGSub_eq, ↓wIsi_eq, ↓wIsi2_eq, ↓wIt_eq, ↓wRng1_eq, ↓wRng2_eq, ↓wLenSc_eq, ↓wIxSc_eq, ↓wPar_eq, ↓asgn_eq, ↓asgn_fz, ↓asgn_ow, ↓asgn_loc, ↓retR_fz, ↓retR_ow, ↓retR_loc, ↓wFor_eq, ↓wLc_eq, ↓wVar_eq, ↓wC_eq, ↓wNil_eq, ↓wCons_eq, ↓wAndT_eq, ↓wOrT_eq, ↓wNotT_eq, ↓wIfE_eq, ↓wNoPart_eq, ↓wYes_eq, ↓wNext_eq, ↓wBreak_eq, ↓wCont_eq, ↓wSeq_eq, ↓wDrop_eq, ↓wRet_eq, ↓wRetN_eq, ↓wIf_eq, ↓wAsg_eq, ↓wGNil_eq, ↓gOfB_eq, ↓endsF_nx, ↓endsF_rt, ↓bnd_some, ↓bnd_none, ↓ind_int, ↓tst_bool, ↓tsto_bool, ↓locR_loc, ↓tupR_tup, ↓cns_cons, ↓two_two, ↓ints1_int, ↓ints2_int, ↓g1_eq, ↓g2_eq, ↓gEq_eq, ↓gNe_eq, ↓gRepr_eq, ↓gIn_one, ↓gIs_bb, ↓gIs_none, ↓gIn_list, ↓gIn_tuple, ↓gSl_list, ↓gSl_tuple, ↓gSl_str, ↓gIx_list, ↓gIx_tuple, ↓gIx_str, ↓gSetL_eq, ↓gSum_eq, ↓gBools_eq, ↓gJoin_eq, ↓gAdd.eq_1, ↓gAdd.eq_2, ↓gAdd.eq_3, ↓gAdd.eq_4, ↓PL.gSub.eq_1, ↓gMod.eq_1, ↓gDiv.eq_1, ↓gPow.eq_1, ↓gMul.eq_1, ↓gMul.eq_2, ↓gMul.eq_3, ↓gCmp.eq_1, ↓gCmp.eq_2, ↓gLen.eq_1, ↓gLen.eq_2, ↓gLen.eq_3, ↓gAbs.eq_1, ↓gInt.eq_1, ↓gInt.eq_2, ↓gI2.eq_1, ↓gTup1.eq_1, ↓gTup1.eq_2, ↓gLst1.eq_1, ↓gLst1.eq_2, ↓gAppend.eq_1, ↓gCount.eq_1, ↓gUpper.eq_1, ↓wGet1_eq, ↓wGet2_eq, ↓wNewK_eq, ↓wNewT_eq, ↓wTupO_eq, ↓wCallR_eq, ↓wParN_eq, ↓wPar3_eq, ↓wGTupL_eq, ↓wDisp1_eq, ↓wForK_eq, ↓gPopAt_0, ↓gStr_l, ↓gStr_t, ↓gLenA_l, ↓gLenA_t, ↓gLenA_s, ↓gLenA_d, ↓gMulT_eq, ↓gLtP_t, ↓gLtP_i, ↓gLtP_s, ↓asgnAll_nil, ↓asgnAll_cons, ↓wGSubT_eq, ↓wZip_eq, ↓gIxA_list, ↓gIxA_tuple, ↓gIxA_str, ↓gIxA_dict, ↓gInA_list, ↓gInA_tuple, ↓gInA_str, ↓gInA_dict, ↓gSetD_dict, ↓gDict1_tuple, ↓gDict1_list, ↓gReverse_list, ↓gExtend_list, ↓gLst2_list, ↓gLst2_tuple, ↓gLst2_dict, ↓gLst3_str, ↓gLst3_list, ↓gLst3_tuple, ↓gLst3_dict, ↓wRngDn_eq, ↓ints3_eq, ↓fzd_fz, ↓dcO_dict, ↓wIc_eq, ↓wItB_eq, ↓lstO_list, isK, fzO_list, fzO_dict, fzO_ts, fzO_ti, fzO_tl, eqv_int, eqv_str, eqv_bool, eqv_ns, eqv_sn, eqv_nn, eqv_ni, eqv_in, eqv_si, eqv_is, eqOk_int, eqOk_str, eqOk_bool, eqOk_ns, eqOk_sn, eqOk_nn, eqOk_ni, eqOk_in, eqOk_si, eqOk_is, beq_iff_eq, ixN_0, ixN_1, ixN_2, ixN_3, ixN_4, ixN_5, ixN_6, ixN_7, atI_0, atI_1, atI_2, atI_3, atI_4, atI_5, atI_6, atI_7, rVar, lookAll, ownAt?, look, frz, frzAll, Out.res, okSlot_eq, okO_some, okS_fz, okS_ow, okS_sc, okS_none, wipeE, restE, prep, back, lent, lentOk, outsOf, outsFrom, argE, Res.good, isTy, tyN, noDict, itD, scAt, owA, fixR, isL, isS, seqOf, truth, truOk, okF, nt, unp, unpL, dkAt, lookR, lookRs, okR, isScal, dicAt, dicOf, fixRs, keyT, List.getElem?_cons_zero, List.getElem?_cons_succ, List.set_cons_zero, List.set_cons_succ, List.replicate_zero, List.replicate_succ, List.cons_append, List.nil_append, List.append_nil, Option.some.injEq, Prod.mk.injEq, PyData.int.injEq, PyData.list.injEq, PyData.str.injEq, PyData.bool.injEq, PyData.tuple.injEq, Res.loc.injEq, Res.fz.injEq, Res.ow.injEq, and_true, true_and, List.length_cons, List.length_nil, if_true, if_false, reduceIte, Bool.false_eq_true, Option.map_some, List.cons.injEq, List.mem_cons, List.not_mem_nil, or_false, forall_eq, forall_eq_or_imp, not_true_eq_false, not_false_eq_true, Bool.not_true, Bool.not_false, forall_const, List.nodup_nil, List.nodup_cons, Option.isSome_some, Option.isSome_none, Option.map_none, Option.bind_some, Option.bind_none, decide_eq_true_eq, Nat.reduceLeDiff, Nat.reduceAdd, Nat.zero_add, exists_eq', Int.reduceLT, Int.reduceLE, Int.reduceNeg, Int.reducePow, Nat.reducePow, Int.reduceToNat, Int.reduceAdd, Int.reduceMul, Nat.reduceMul, Nat.reduceEqDiff, Nat.reduceSub, String.reduceBEq, beq_self_eq_true, Bool.and_true, Bool.true_and, Bool.or_true, Bool.true_or, Bool.or_false, Bool.false_or, Bool.and_false, Bool.false_and, Bool.not_eq_true, Bool.not_eq_false, reduceCtorEq])
  | `(tactic| push_cast) => `(tactic| simp -dsimp -implicitDefEqProofs only [↓w2_eq, ↓wT_eq, ↓wChain_eq, ↓wTru_eq, ↓wAndV_eq, ↓wOrV_eq, ↓wNotV_eq, ↓wNeg_eq, ↓wPart_eq, ↓wSl_eq, ↓wN_eq, ↓wM_eq, ↓wMut_eq, ↓wTup_eq, ↓wLst_eq, ↓wCall_eq, ↓wGTup_eq, ↓wGCons_eq, ↓wGSub_eq, ↓wIsi_eq, ↓wIsi2_eq, ↓wIt_eq, ↓wRng1_eq, ↓wRng2_eq, ↓wLenSc_eq, ↓wIxSc_eq, ↓wPar_eq, ↓asgn_eq, ↓asgn_fz, ↓asgn_ow, ↓asgn_loc, ↓retR_fz, ↓retR_ow, ↓retR_loc, ↓wFor_eq, ↓wLc_eq, ↓wVar_eq, ↓wC_eq, ↓wNil_eq, ↓wCons_eq, ↓wAndT_eq, ↓wOrT_eq, ↓wNotT_eq, ↓wIfE_eq, ↓wNoPart_eq, ↓wYes_eq, ↓wNext_eq, ↓wBreak_eq, ↓wCont_eq, ↓wSeq_eq, ↓wDrop_eq, ↓wRet_eq, ↓wRetN_eq, ↓wIf_eq, ↓wAsg_eq, ↓wGNil_eq, ↓gOfB_eq, ↓endsF_nx, ↓endsF_rt, ↓bnd_some, ↓bnd_none, ↓ind_int, ↓tst_bool, ↓tsto_bool, ↓locR_loc, ↓tupR_tup, ↓cns_cons, ↓two_two, ↓ints1_int, ↓ints2_int, ↓g1_eq, ↓g2_eq, ↓gEq_eq, ↓gNe_eq, ↓gRepr_eq, ↓gIn_one, ↓gIs_bb, ↓gIs_none, ↓gIn_list, ↓gIn_tuple, ↓gSl_list, ↓gSl_tuple, ↓gSl_str, ↓gIx_list, ↓gIx_tuple, ↓gIx_str, ↓gSetL_eq, ↓gSum_eq, ↓gBools_eq, ↓gJoin_eq, ↓gAdd.eq_1, ↓gAdd.eq_2, ↓gAdd.eq_3, ↓gAdd.eq_4, ↓PL.gSub.eq_1, ↓gMod.eq_1, ↓gDiv.eq_1, ↓gPow.eq_1, ↓gMul.eq_1, ↓gMul.eq_2, ↓gMul.eq_3, ↓gCmp.eq_1, ↓gCmp.eq_2, ↓gLen.eq_1, ↓gLen.eq_2, ↓gLen.eq_3, ↓gAbs.eq_1, ↓gInt.eq_1, ↓gInt.eq_2, ↓gI2.eq_1, ↓gTup1.eq_1, ↓gTup1.eq_2, ↓gLst1.eq_1, ↓gLst1.eq_2, ↓gAppend.eq_1, ↓gCount.eq_1, ↓gUpper.eq_1, ↓wGet1_eq, ↓wGet2_eq, ↓wNewK_eq, ↓wNewT_eq, ↓wTupO_eq, ↓wCallR_eq, ↓wParN_eq, ↓wPar3_eq, ↓wGTupL_eq, ↓wDisp1_eq, ↓wForK_eq, ↓gPopAt_0, ↓gStr_l, ↓gStr_t, ↓gLenA_l, ↓gLenA_t, ↓gLenA_s, ↓gLenA_d, ↓gMulT_eq, ↓gLtP_t, ↓gLtP_i, ↓gLtP_s, ↓asgnAll_nil, ↓asgnAll_cons, ↓wGSubT_eq, ↓wZip_eq, ↓gIxA_list, ↓gIxA_tuple, ↓gIxA_str, ↓gIxA_dict, ↓gInA_list, ↓gInA_tuple, ↓gInA_str, ↓gInA_dict, ↓gSetD_dict, ↓gDict1_tuple, ↓gDict1_list, ↓gReverse_list, ↓gExtend_list, ↓gLst2_list, ↓gLst2_tuple, ↓gLst2_dict, ↓gLst3_str, ↓gLst3_list, ↓gLst3_tuple, ↓gLst3_dict, ↓wRngDn_eq, ↓ints3_eq, ↓fzd_fz, ↓dcO_dict, ↓wIc_eq, ↓wItB_eq, ↓lstO_list, isK, fzO_list, fzO_dict, fzO_ts, fzO_ti, fzO_tl, eqv_int, eqv_str, eqv_bool, eqv_ns, eqv_sn, eqv_nn, eqv_ni, eqv_in, eqv_si, eqv_is, eqOk_int, eqOk_str, eqOk_bool, eqOk_ns, eqOk_sn, eqOk_nn, eqOk_ni, eqOk_in, eqOk_si, eqOk_is, beq_iff_eq, ixN_0, ixN_1, ixN_2, ixN_3, ixN_4, ixN_5, ixN_6, ixN_7, atI_0, atI_1, atI_2, atI_3, atI_4, atI_5, atI_6, atI_7, rVar, lookAll, ownAt?, look, frz, frzAll, Out.res, okSlot_eq, okO_some, okS_fz, okS_ow, okS_sc, okS_none, wipeE, restE, prep, back, lent, lentOk, outsOf, outsFrom, argE, Res.good, isTy, tyN, noDict, itD, scAt, owA, fixR, isL, isS, seqOf, truth, truOk, okF, nt, unp, unpL, dkAt, lookR, lookRs, okR, isScal, dicAt, dicOf, fixRs, keyT, List.getElem?_cons_zero, List.getElem?_cons_succ, List.set_cons_zero, List.set_cons_succ, List.replicate_zero, List.replicate_succ, List.cons_append, List.nil_append, List.append_nil, Option.some.injEq, Prod.mk.injEq, PyData.int.injEq, PyData.list.injEq, PyData.str.injEq, PyData.bool.injEq, PyData.tuple.injEq, Res.loc.injEq, Res.fz.injEq, Res.ow.injEq, and_true, true_and, List.length_cons, List.length_nil, if_true, if_false, reduceIte, Bool.false_eq_true, Option.map_some, List.cons.injEq, List.mem_cons, List.not_mem_nil, or_false, forall_eq, forall_eq_or_imp, not_true_eq_false, not_false_eq_true, Bool.not_true, Bool.not_false, forall_const, List.nodup_nil, List.nodup_cons, Option.isSome_some, Option.isSome_none, Option.map_none, Option.bind_some, Option.bind_none, decide_eq_true_eq, Nat.reduceLeDiff, Nat.reduceAdd, Nat.zero_add, exists_eq', Int.reduceLT, Int.reduceLE, Int.reduceNeg, Int.reducePow, Nat.reducePow, Int.reduceToNat, Int.reduceAdd, Int.reduceMul, Nat.reduceMul, Nat.reduceEqDiff, Nat.reduceSub, String.reduceBEq, beq_self_eq_true, Bool.and_true, Bool.true_and, Bool.or_true, Bool.true_or, Bool.or_false, Bool.false_or, Bool.and_false, Bool.false_and, Bool.not_eq_true, Bool.not_eq_false, reduceCtorEq])
theorem cut2 {x y : D} {ds : List D} : PL.cutD (x :: y :: ds) (some 2) none = ds := by
  unfold PL.cutD
  rw [HT.sIx_none]
  have : HT.sIx (x :: y :: ds).length 0 (some 2) = min 2 (x :: y :: ds).length := HT.sIx_nat _ _ 2
  rw [this]
  have h2 : min 2 (x :: y :: ds).length = 2 := by simp only [List.length_cons]; omega
  rw [h2, List.take_of_length_le (by simp)]
  rfl
theorem lets_ok {hp : List (Str × Str)} {rest : List D} {part : Str} {tot day : Int} {sides : List D} {l : Lv} {ps : List (Str × Str)} {Q : Res → List D → Prop} (hr : Rooted ps) (hpm : hp.Perm ps) (hl : ps.length ≤ 1000)
    (hQ : ∀ o, Q (.fz (.bool (letsB (over ps part) tot day l))) o) : g_lets [.tuple (.tuple (hp.map pD) :: rest), .tuple (.str part :: .int tot :: sides), l.d, .int day] Q := by
  have q2 : ∀ b, b = letsB (over ps part) tot day l → ∀ o, Q (.fz (.bool b)) o := fun b hb o => by rw [hb]; exact hQ o
  push_cast [g_lets, w_lets, w_lets_0, Lv.d, w_lets_1]
  refine callT_of (parts_over_ok hr hpm hl fun o _ hol => ?_)
  match o, hol with
  | [p1, p2], _ =>
  push_cast [inD_str, flat_strs, flat_str]
  split
  · rename_i h1
    split
    · rename_i h2
      split
      · rename_i h3
        exact q2 _ (by simp [letsB, h1, h2, h3]) _
      · rename_i h3
        exact q2 _ (by simp [letsB, h1, h2, h3]) _
    · rename_i h2
      exact q2 _ (by simp [letsB, h1, h2]) _
  · rename_i h1
    exact q2 _ (by simp [letsB, h1]) _
theorem steps_on_ok {hp : List (Str × Str)} {x1 x3 : D} {part : Str} {tot day : Int} {sides : List Str} {ls : List Lv} {ps : List (Str × Str)} {Q : Res → List D → Prop} (hr : Rooted ps) (hpm : hp.Perm ps) (hl : ps.length ≤ 1000) (hll : ls.length ≤ 1000)
    (hQ : ∀ o, Q (.ow (.list ((stepsF sides (over ps part) tot day ls).map Lv.d))) o) : g_steps_on [.tuple [.tuple (hp.map pD), x1, .tuple (ls.map Lv.d), x3], .tuple (.str part :: .int tot :: sides.map .str), .int day] Q := by
  push_cast [g_steps_on, w_steps_on, w_steps_on_0, cut2, w_steps_on_1]
  refine ⟨by rw [List.length_map, List.length_map]; omega, ?_⟩
  refine lcLT_inv (hs := fun _ _ _ _ => True.intro) (fun i acc e => acc = ((ls.take i).filter fun l => decide (l.giver ∉ sides) && decide (l.taker ∉ sides)).map Lv.d ∧ e = [some (.fz, .tuple [.tuple (hp.map pD), x1, .tuple (ls.map Lv.d), x3]), some (.fz, .tuple (.str part :: .int tot :: sides.map .str)), some (.fz, .int day), some (.fz, .tuple (sides.map .str)), none, none]) ⟨rfl, rfl⟩ (fun i d acc e K2 hd hi hk => ?_) (fun acc e hi => ?_)
  · obtain ⟨rfl, rfl⟩ := hi
    rw [List.getElem?_map, List.getElem?_map, Option.map_eq_some_iff] at hd
    obtain ⟨w, hc, rfl⟩ := hd
    rw [Option.map_eq_some_iff] at hc
    obtain ⟨l, hc, rfl⟩ := hc
    have ht : ls.take (i + 1) = ls.take i ++ [l] := by rw [List.take_succ, hc]; rfl
    have yes : ∀ e, (l.giver ∉ sides ∧ l.taker ∉ sides) → e = _ → K2 (((ls.take i).filter fun l => decide (l.giver ∉ sides) && decide (l.taker ∉ sides)).map Lv.d ++ [l.d]) e := fun e hb he => hk _ _ ⟨by
      rw [ht, List.filter_append, List.map_append, List.filter_cons_of_pos (by simpa using hb)]; rfl, he⟩
    have no : ∀ e, ¬ (l.giver ∉ sides ∧ l.taker ∉ sides) → e = _ → K2 (((ls.take i).filter fun l => decide (l.giver ∉ sides) && decide (l.taker ∉ sides)).map Lv.d) e := fun e hb he => hk _ _ ⟨by
      rw [ht, List.filter_append, List.filter_cons_of_neg (by simpa using hb)]; simp, he⟩
    push_cast [Lv.d, inD_str, flat_strs, flat_str]
    split
    · rename_i h1
      split
      · rename_i h2
        exact yes _ ⟨by simpa using h1, by simpa using h2⟩ rfl
      · rename_i h2
        exact no _ (fun h => h2 (by simpa using h.2)) rfl
    · rename_i h1
      exact no _ (fun h => h1 (by simpa using h.1)) rfl
  obtain ⟨rfl, rfl⟩ := hi
  rw [List.length_map, List.length_map, List.take_length]
  have hsl : (ls.filter fun l => decide (l.giver ∉ sides) && decide (l.taker ∉ sides)).length ≤ ls.length := List.length_filter_le ..
  unfold stepsF at hQ
  generalize (ls.filter fun l => decide (l.giver ∉ sides) && decide (l.taker ∉ sides)) = some_ at hQ hsl
  push_cast [w_steps_on_2]
  refine ⟨by rw [List.length_map, List.length_map]; omega, ?_⟩
  refine lcLT_inv (hs := fun _ _ _ _ => True.intro) (fun i acc e => acc = ((some_.take i).filter (letsB (over ps part) tot day)).map Lv.d ∧ e = [some (.fz, .tuple [.tuple (hp.map pD), x1, .tuple (ls.map Lv.d), x3]), some (.fz, .tuple (.str part :: .int tot :: sides.map .str)), some (.fz, .int day), some (.fz, .tuple (sides.map .str)), some (.fz, .list (some_.map Lv.d)), none]) ⟨rfl, rfl⟩ (fun i d acc e K2 hd hi hk => ?_) (fun acc e hi => ?_)
  · obtain ⟨rfl, rfl⟩ := hi
    rw [List.getElem?_map, List.getElem?_map, Option.map_eq_some_iff] at hd
    obtain ⟨w, hc, rfl⟩ := hd
    rw [Option.map_eq_some_iff] at hc
    obtain ⟨l, hc, rfl⟩ := hc
    have ht : some_.take (i + 1) = some_.take i ++ [l] := by rw [List.take_succ, hc]; rfl
    push_cast
    refine lets_ok hr hpm hl fun o _ _ => ?_
    push_cast
    split
    · rename_i h1
      refine hk _ _ ⟨?_, rfl⟩
      rw [ht, List.filter_append, List.map_append, List.filter_cons_of_pos h1]; rfl
    · rename_i h1
      refine hk _ _ ⟨?_, rfl⟩
      rw [ht, List.filter_append, List.filter_cons_of_neg h1]; simp
  obtain ⟨rfl, rfl⟩ := hi
  rw [List.length_map, List.length_map, List.take_length]
  push_cast
  exact hQ _
end K14
set_option Elab.async false
set_option linter.all false
set_option autoImplicit false
set_option maxRecDepth 100000
set_option maxHeartbeats 4000000
namespace K14
open PySem PySem.Spec PyProof.Rows L2 PL
local macro_rules
  | `(tactic| push_cast [$xs,*]) => `(tactic| simp -dsimp -implicitDefEqProofs only [$xs,*, ↓w2_eq, ↓wT_eq, ↓wChain_eq, ↓wTru_eq, ↓wAndV_eq, ↓wOrV_eq, ↓wNotV_eq, ↓wNeg_eq, ↓wPart_eq, ↓wSl_eq, ↓wN_eq, ↓wM_eq, ↓wMut_eq, ↓wTup_eq, ↓wLst_eq, ↓wCall_eq, ↓wGTup_eq, ↓wGCons_eq, ↓wGSub_eq, ↓wIsi_eq, ↓wIsi2_eq, ↓wIt_eq, ↓wRng1_eq, ↓wRng2_eq, ↓wLenSc_eq, ↓wIxSc_eq, ↓wPar_eq, ↓asgn_eq, ↓asgn_fz, ↓asgn_ow, ↓asgn_loc, ↓retR_fz, ↓retR_ow, ↓retR_loc, ↓wFor_eq, ↓wLc_eq, ↓wVar_eq, ↓wC_eq, ↓wNil_eq, ↓wCons_eq, ↓wAndT_eq, ↓wOrT_eq, ↓wNotT_eq, ↓wIfE_eq, ↓wNoPart_eq, ↓wYes_eq, ↓wNext_eq, ↓wBreak_eq, ↓wCont_eq, ↓wSeq_eq, ↓wDrop_eq, ↓wRet_eq, ↓wRetN_eq, ↓wIf_eq, ↓wAsg_eq, ↓wGNil_eq, ↓gOfB_eq, ↓endsF_nx, ↓endsF_rt, ↓bnd_some, ↓bnd_none, ↓ind_int, ↓tst_bool, ↓tsto_bool, ↓locR_loc, ↓tupR_tup, ↓cns_cons, ↓two_two, ↓ints1_int, ↓ints2_int, ↓g1_eq, ↓g2_eq, ↓gEq_eq, ↓gNe_eq, ↓gRepr_eq, ↓gIn_one, ↓gIs_bb, ↓gIs_none, ↓gIn_list, ↓gIn_tuple, ↓gSl_list, ↓gSl_tuple, ↓gSl_str, ↓gIx_list, ↓gIx_tuple, ↓gIx_str, ↓gSetL_eq, ↓gSum_eq, ↓gBools_eq, ↓gJoin_eq, ↓gAdd.eq_1, ↓gAdd.eq_2, ↓gAdd.eq_3, ↓gAdd.eq_4, ↓PL.gSub.eq_1, ↓gMod.eq_1, ↓gDiv.eq_1, ↓gPow.eq_1, ↓gMul.eq_1, ↓gMul.eq_2, ↓gMul.eq_3, ↓gCmp.eq_1, ↓gCmp.eq_2, ↓gLen.eq_1, ↓gLen.eq_2, ↓gLen.eq_3, ↓gAbs.eq_1, ↓gInt.eq_1, ↓gInt.eq_2, ↓gI2.eq_1, ↓gTup1.eq_1, ↓gTup1.eq_2, ↓gLst1.eq_1, ↓gLst1.eq_2, ↓gAppend.eq_1, ↓gCount.eq_1, ↓gUpper.eq_1, ↓wGet1_eq, ↓wGet2_eq, ↓wNewK_eq, ↓wNewT_eq, ↓wTupO_eq, ↓wCallR_eq, ↓wParN_eq, ↓wPar3_eq, ↓wGTupL_eq, ↓wDisp1_eq, ↓wForK_eq, ↓gPopAt_0, ↓gStr_l, ↓gStr_t, ↓gLenA_l, ↓gLenA_t, ↓gLenA_s, ↓gLenA_d, ↓gMulT_eq, ↓gLtP_t, ↓gLtP_i, ↓gLtP_s, ↓asgnAll_nil, ↓asgnAll_cons, ↓wGSubT_eq, ↓wZip_eq, ↓gIxA_list, ↓gIxA_tuple, ↓gIxA_str, ↓gIxA_dict, ↓gInA_list, ↓gInA_tuple, ↓gInA_str, ↓gInA_dict, ↓gSetD_dict, ↓gDict1_tuple, ↓gDict1_list, ↓gReverse_list, ↓gExtend_list, ↓gLst2_list, ↓gLst2_tuple, ↓gLst2_dict, ↓gLst3_str, ↓gLst3_list, ↓gLst3_tuple, ↓gLst3_dict, ↓wRngDn_eq, ↓ints3_eq, ↓fzd_fz, ↓dcO_dict, ↓wIc_eq, ↓wItB_eq, ↓lstO_list, isK, fzO_list, fzO_dict, fzO_ts, fzO_ti, fzO_tl, eqv_int, eqv_str, eqv_bool, eqv_ns, eqv_sn, eqv_nn, eqv_ni, eqv_in, eqv_si, eqv_is, eqOk_int, eqOk_str, eqOk_bool, eqOk_ns, eqOk_sn, eqOk_nn, eqOk_ni, eqOk_in, eqOk_si, eqOk_is, beq_iff_eq, ixN_0, ixN_1, ixN_2, ixN_3, ixN_4, ixN_5, ixN_6, ixN_7, atI_0, atI_1, atI_2, atI_3, atI_4, atI_5, atI_6, atI_7, rVar, lookAll, ownAt?, look, frz, frzAll, Out.res, okSlot_eq, okO_some, okS_fz, okS_ow, okS_sc, okS_none, wipeE, restE, prep, back, lent, lentOk, outsOf, outsFrom, argE, Res.good, isTy, tyN, noDict, itD, scAt, owA, fixR, isL, isS, seqOf, truth, truOk, okF, nt, unp, unpL, dkAt, lookR, lookRs, okR, isScal, dicAt, dicOf, fixRs, keyT, List.getElem?_cons_zero, List.getElem?_cons_succ, List.set_cons_zero, List.set_cons_succ, List.replicate_zero, List.replicate_succ, List.cons_append, List.nil_append, List.append_nil, Option.some.injEq, Prod.mk.injEq, PyData.int.injEq, PyData.list.injEq, PyData.str.injEq, PyData.bool.injEq, PyData.tuple.injEq, Res.loc.injEq, Res.fz.injEq, Res.ow.injEq, and_true, true_and, List.length_cons, List.length_nil, if_true, if_false, reduceIte, Bool.false_eq_true, Option.map_some, List.cons.injEq, List.mem_cons, List.not_mem_nil, or_false, forall_eq, forall_eq_or_imp, not_true_eq_false, not_false_eq_true, Bool.not_true, Bool.not_false, forall_const, List.nodup_nil, List.nodup_cons, Option.isSome_some, Option.isSome_none, Option.map_none, Option.bind_some, Option.bind_none, decide_eq_true_eq, Nat.reduceLeDiff, Nat.reduceAdd, Nat.zero_add, exists_eq', Int.reduceLT, Int.reduceLE, Int.reduceNeg, Int.reducePow, Nat.reducePow, Int.reduceToNat, Int.reduceAdd, Int.reduceMul, Nat.reduceMul, Nat.reduceEqDiff, Nat.reduceSub, String.reduceBEq, beq_self_eq_true, Bool.and_true, Bool.true_and, Bool.or_true, Bool.true_or, Bool.or_false, Bool.false_or, Bool.and_false, Bool.false_and, Bool.not_eq_true, Bool.not_eq_false, reduceCtorEq])
  | `(tactic| push_cast) => `(tactic| simp -dsimp -implicitDefEqProofs only [↓w2_eq, ↓wT_eq, ↓wChain_eq, ↓wTru_eq, ↓wAndV_eq, ↓wOrV_eq, ↓wNotV_eq, ↓wNeg_eq, ↓wPart_eq, ↓wSl_eq, ↓wN_eq, ↓wM_eq, ↓wMut_eq, ↓wTup_eq, ↓wLst_eq, ↓wCall_eq, ↓wGTup_eq, ↓wGCons_eq, ↓wGSub_eq, ↓wIsi_eq, ↓wIsi2_eq, ↓wIt_eq, ↓wRng1_eq, ↓wRng2_eq, ↓wLenSc_eq, ↓wIxSc_eq, ↓wPar_eq, ↓asgn_eq, ↓asgn_fz, ↓asgn_ow, ↓asgn_loc, ↓retR_fz, ↓retR_ow, ↓retR_loc, ↓wFor_eq, ↓wLc_eq, ↓wVar_eq, ↓wC_eq, ↓wNil_eq, ↓wCons_eq, ↓wAndT_eq, ↓wOrT_eq, ↓wNotT_eq, ↓wIfE_eq, ↓wNoPart_eq, ↓wYes_eq, ↓wNext_eq, ↓wBreak_eq, ↓wCont_eq, ↓wSeq_eq, ↓wDrop_eq, ↓wRet_eq, ↓wRetN_eq, ↓wIf_eq, ↓wAsg_eq, ↓wGNil_eq, ↓gOfB_eq, ↓endsF_nx, ↓endsF_rt, ↓bnd_some, ↓bnd_none, ↓ind_int, ↓tst_bool, ↓tsto_bool, ↓locR_loc, ↓tupR_tup, ↓cns_cons, ↓two_two, ↓ints1_int, ↓ints2_int, ↓g1_eq, ↓g2_eq, ↓gEq_eq, ↓gNe_eq, ↓gRepr_eq, ↓gIn_one, ↓gIs_bb, ↓gIs_none, ↓gIn_list, ↓gIn_tuple, ↓gSl_list, ↓gSl_tuple, ↓gSl_str, ↓gIx_list, ↓gIx_tuple, ↓gIx_str, ↓gSetL_eq, ↓gSum_eq, ↓gBools_eq, ↓gJoin_eq, ↓gAdd.eq_1, ↓gAdd.eq_2, ↓gAdd.eq_3, ↓gAdd.eq_4, ↓PL.gSub.eq_1, ↓gMod.eq_1, ↓gDiv.eq_1, ↓gPow.eq_1, ↓gMul.eq_1, ↓gMul.eq_2, ↓gMul.eq_3, ↓gCmp.eq_1, ↓gCmp.eq_2, ↓gLen.eq_1, ↓gLen.eq_2, ↓gLen.eq_3, ↓gAbs.eq_1, ↓gInt.eq_1, ↓gInt.eq_2, ↓gI2.eq_1, ↓gTup1.eq_1, ↓gTup1.eq_2, ↓gLst1.eq_1, ↓gLst1.eq_2, ↓gAppend.eq_1, ↓gCount.eq_1, ↓gUpper.eq_1, ↓wGet1_eq, ↓wGet2_eq, ↓wNewK_eq, ↓wNewT_eq, ↓wTupO_eq, ↓wCallR_eq, ↓wParN_eq, ↓wPar3_eq, ↓wGTupL_eq, ↓wDisp1_eq, ↓wForK_eq, ↓gPopAt_0, ↓gStr_l, ↓gStr_t, ↓gLenA_l, ↓gLenA_t, ↓gLenA_s, ↓gLenA_d, ↓gMulT_eq, ↓gLtP_t, ↓gLtP_i, ↓gLtP_s, ↓asgnAll_nil, ↓asgnAll_cons, ↓wGSubT_eq, ↓wZip_eq, ↓gIxA_list, ↓gIxA_tuple, ↓gIxA_str, ↓gIxA_dict, ↓gInA_list, ↓gInA_tuple, ↓gInA_str, ↓gInA_dict, ↓gSetD_dict, ↓gDict1_tuple, ↓gDict1_list, ↓gReverse_list, ↓gExtend_list, ↓gLst2_list, ↓gLst2_tuple, ↓gLst2_dict, ↓gLst3_str, ↓gLst3_list, ↓gLst3_tuple, ↓gLst3_dict, ↓wRngDn_eq, ↓ints3_eq, ↓fzd_fz, ↓dcO_dict, ↓wIc_eq, ↓wItB_eq, ↓lstO_list, isK, fzO_list, fzO_dict, fzO_ts, fzO_ti, fzO_tl, eqv_int, eqv_str, eqv_bool, eqv_ns, eqv_sn, eqv_nn, eqv_ni, eqv_in, eqv_si, eqv_is, eqOk_int, eqOk_str, eqOk_bool, eqOk_ns, eqOk_sn, eqOk_nn, eqOk_ni, eqOk_in, eqOk_si, eqOk_is, beq_iff_eq, ixN_0, ixN_1, ixN_2, ixN_3, ixN_4, ixN_5, ixN_6, ixN_7, atI_0, atI_1, atI_2, atI_3, atI_4, atI_5, atI_6, atI_7, rVar, lookAll, ownAt?, look, frz, frzAll, Out.res, okSlot_eq, okO_some, okS_fz, okS_ow, okS_sc, okS_none, wipeE, restE, prep, back, lent, lentOk, outsOf, outsFrom, argE, Res.good, isTy, tyN, noDict, itD, scAt, owA, fixR, isL, isS, seqOf, truth, truOk, okF, nt, unp, unpL, dkAt, lookR, lookRs, okR, isScal, dicAt, dicOf, fixRs, keyT, List.getElem?_cons_zero, List.getElem?_cons_succ, List.set_cons_zero, List.set_cons_succ, List.replicate_zero, List.replicate_succ, List.cons_append, List.nil_append, List.append_nil, Option.some.injEq, Prod.mk.injEq, PyData.int.injEq, PyData.list.injEq, PyData.str.injEq, PyData.bool.injEq, PyData.tuple.injEq, Res.loc.injEq, Res.fz.injEq, Res.ow.injEq, and_true, true_and, List.length_cons, List.length_nil, if_true, if_false, reduceIte, Bool.false_eq_true, Option.map_some, List.cons.injEq, List.mem_cons, List.not_mem_nil, or_false, forall_eq, forall_eq_or_imp, not_true_eq_false, not_false_eq_true, Bool.not_true, Bool.not_false, forall_const, List.nodup_nil, List.nodup_cons, Option.isSome_some, Option.isSome_none, Option.map_none, Option.bind_some, Option.bind_none, decide_eq_true_eq, Nat.reduceLeDiff, Nat.reduceAdd, Nat.zero_add, exists_eq', Int.reduceLT, Int.reduceLE, Int.reduceNeg, Int.reducePow, Nat.reducePow, Int.reduceToNat, Int.reduceAdd, Int.reduceMul, Nat.reduceMul, Nat.reduceEqDiff, Nat.reduceSub, String.reduceBEq, beq_self_eq_true, Bool.and_true, Bool.true_and, Bool.or_true, Bool.true_or, Bool.or_false, Bool.false_or, Bool.and_false, Bool.false_and, Bool.not_eq_true, Bool.not_eq_false, reduceCtorEq])
abbrev eF (hd pp : D) (z : Str) (day : Int) (k4 : Kd) (steps : List Lv) (s : Fw) (x7 x8 : Slot) : DEnv :=
  [some (.fz, hd), some (.fz, pp), some (.fz, .str z), some (.fz, .int day), some (k4, .list (steps.map Lv.d)), some (.ow, .dict (fD s.found)), some (.ow, .list (s.wait.map .str)), x7, x8]
theorem rows_one {z0 : Str} {D0 : DEnds} {hd pp : D} {z here : Str} {day : Int} {steps : List Lv} {s : Fw} {l : Lv} (w : WF z0 steps s) (hsl : steps.length ≤ 1000) (hh : here ∈ s.found.map Prod.fst) (hl : l ∈ steps)
    (hK : D0.nx (eF hd pp z day .fz steps (PL.one here s l) (some (.fz, .str here)) (some (.fz, l.d)))) :
    b_rows_from_1 D0 (eF hd pp z day .fz steps s (some (.fz, .str here)) (some (.fz, l.d))) := by
  have hko := fD_ok s.found
  have hlk := fD_look s.found
  obtain ⟨r, hr, hrm⟩ := rowAt_mem hh
  have hwd := w.d
  have hwl : s.wait.length ≤ 2001 := by unfold mea at hwd; omega
  have hrl : r.length + 1 ≤ s.found.length := w.b _ hrm
  have hfl : s.found.length ≤ 1001 := by have := w.c; omega
  by_cases h1 : l.giver = here
  · subst h1
    by_cases h2 : l.taker ∈ s.found.map Prod.fst
    · have e : PL.one l.giver s l = s := if_neg fun h => h.2 h2
      rw [e] at hK
      obtain ⟨r2, hr2, _⟩ := rowAt_mem h2
      push_cast [b_rows_from_1, eF, Lv.d, hko, hlk, hr2]
      exact hK
    · have e : PL.one l.giver s l = ⟨s.found ++ [(l.taker, (rowAt s.found l.giver).getD [] ++ [l.num])], s.wait ++ [l.taker]⟩ := if_pos ⟨rfl, h2⟩
      rw [e, hr] at hK
      have hr2 := rowAt_none h2
      have e2 : putD (fD s.found) (.str l.taker) (.list (r.map .int ++ [.int l.num])) = fD (s.found ++ [(l.taker, r ++ [l.num])]) := by
        have := fD_put (r := r ++ [l.num]) h2
        rw [List.map_append] at this
        exact this
      have e3 : s.wait.map PyData.str ++ [PyData.str l.taker] = (s.wait ++ [l.taker]).map PyData.str := by rw [List.map_append]; rfl
      push_cast [b_rows_from_1, eF, Lv.d, hko, hlk, hr2, hr, e2, e3]
      exact ⟨by rw [List.length_map]; omega, isTd_map (fun p : Str × List Int => p.1) (fun p => PyData.list (p.2.map .int)) _, by rw [fD, List.length_map]; omega, by rw [List.length_map]; omega, hK⟩
  · have e : PL.one here s l = s := if_neg fun h => h1 h.1
    rw [e] at hK
    have h1' : (l.giver == here) = false := by simpa using h1
    push_cast [b_rows_from_1, eF, Lv.d, h1']
    exact hK
theorem rows_turn {z0 : Str} {D0 : DEnds} {hd pp : D} {z h : Str} {t : List Str} {day : Int} {k4 : Kd} {steps : List Lv} {s : Fw} {x7 x8 : Slot} (w : WF z0 steps s) (hsl : steps.length ≤ 1000) (e : s.wait = h :: t) (o4 : k4 = .fz ∨ k4 = .ow) (o7 : okS x7 = true) (o8 : okS x8 = true)
    (hK : ∀ x7 x8, okS x7 = true → okS x8 = true → D0.nx (eF hd pp z day .fz steps (turn steps s) x7 x8)) :
    b_rows_from_2 D0 (eF hd pp z day k4 steps s x7 x8) := by
  obtain ⟨w1, hh⟩ := w.pop e
  have et : turn steps s = steps.foldl (PL.one h) ⟨s.found, t⟩ := by unfold turn; rw [e]
  have go : ∀ x8, okS x8 = true → forLT (asgn 8) b_rows_from_1 D0 ((steps.map Lv.d).map Res.fz) (eF hd pp z day .fz steps ⟨s.found, t⟩ (some (.fz, .str h)) x8) := by
    intro x8 o8
    refine forLT_inv (fun j e => ∃ x8, e = eF hd pp z day .fz steps ((steps.take j).foldl (PL.one h) ⟨s.found, t⟩) (some (.fz, .str h)) x8 ∧ okS x8 = true) ⟨x8, rfl, o8⟩ (fun j d e K2 hd hi hk2 => ?_) (fun e hi => ?_)
    · obtain ⟨x8, rfl, o8⟩ := hi
      rw [List.getElem?_map, List.getElem?_map, Option.map_eq_some_iff] at hd
      obtain ⟨w0, hc, rfl⟩ := hd
      rw [Option.map_eq_some_iff] at hc
      obtain ⟨l, hc, rfl⟩ := hc
      have ht : steps.take (j + 1) = steps.take j ++ [l] := by rw [List.take_succ, hc]; rfl
      have hsub : ∀ q ∈ steps.take j, q ∈ steps := fun q hq => List.mem_of_mem_take hq
      have w2 := WF.fold (here := h) (steps.take j) hsub w1 hh
      have hh2 := fold_keys (here := h) (s := ⟨s.found, t⟩) (steps.take j) hh
      generalize hS : (steps.take j).foldl (PL.one h) ⟨s.found, t⟩ = S at w2 hh2
      push_cast [eF, o8]
      refine rows_one w2 hsl hh2 (List.mem_of_getElem? hc) (hk2 _ ⟨some (.fz, l.d), ?_, rfl⟩)
      rw [ht, List.foldl_append, hS]; rfl
    · obtain ⟨x8, rfl, o8⟩ := hi
      rw [List.length_map, List.length_map, List.take_length, ← et]
      exact hK _ _ rfl o8
  rcases o4 with rfl | rfl
  all_goals
    push_cast [b_rows_from_2, b_rows_from_2_0, eF, e, List.map_cons, gPopAt_0, o7, b_rows_from_2_1]
    exact go _ o8
theorem rows_from_ok {hp : List (Str × Str)} {x1 x3 : D} {part z : Str} {tot day : Int} {sides : List Str} {ls : List Lv} {ps : List (Str × Str)} {Q : Res → List D → Prop} (hr : Rooted ps) (hpm : hp.Perm ps) (hl : ps.length ≤ 1000) (hll : ls.length ≤ 1000) (tz : TOk 8 z) (tl : ∀ l ∈ ls, TOk 8 l.taker)
    (h0 : z ∈ sides → ∀ o, Q (.ow (.dict [])) o) (hQ : z ∉ sides → ∀ n o, (turns (stepsF sides (over ps part) tot day ls) n ⟨[(z, [])], [z]⟩).wait = [] → Q (.ow (.dict (fD (turns (stepsF sides (over ps part) tot day ls) n ⟨[(z, [])], [z]⟩).found))) o) :
    g_rows_from [.tuple [.tuple (hp.map pD), x1, .tuple (ls.map Lv.d), x3], .tuple (.str part :: .int tot :: sides.map .str), .str z, .int day] Q := by
  by_cases hz : z ∈ sides
  · push_cast [g_rows_from, w_rows_from, w_rows_from_0, cut2, inD_str, flat_strs, flat_str, hz, decide_true]
    exact h0 hz _
  · have hQ := hQ hz
    push_cast [g_rows_from, w_rows_from, w_rows_from_0, cut2, inD_str, flat_strs, flat_str, hz, decide_false, w_rows_from_1]
    refine callT_of (steps_on_ok hr hpm hl hll fun o _ hol => ?_)
    match o, hol with
    | [p1, p2, p3], _ =>
    have hsl : (stepsF sides (over ps part) tot day ls).length ≤ 1000 := by
      unfold stepsF
      exact Nat.le_trans (List.length_filter_le ..) (Nat.le_trans (List.length_filter_le ..) hll)
    have htl : ∀ l ∈ stepsF sides (over ps part) tot day ls, TOk 8 l.taker := fun l h => tl l (List.mem_filter.mp (List.mem_filter.mp h).1).1
    generalize stepsF sides (over ps part) tot day ls = steps at hQ hsl htl
    push_cast [w_rows_from_2, w_rows_from_3, w_rows_from_4]
    generalize PyData.tuple [PyData.tuple (hp.map pD), x1, PyData.tuple (ls.map Lv.d), x3] = HD
    generalize PyData.tuple (PyData.str part :: PyData.int tot :: sides.map PyData.str) = PP
    refine while_inv (fun m e => ∃ n k4 x7 x8, e = eF HD PP z day k4 steps (turns steps n ⟨[(z, [])], [z]⟩) x7 x8 ∧ m = mea steps (turns steps n ⟨[(z, [])], [z]⟩) ∧ WF z steps (turns steps n ⟨[(z, [])], [z]⟩) ∧ (k4 = .fz ∨ k4 = .ow) ∧ okS x7 = true ∧ okS x8 = true) _ ⟨0, .ow, none, none, rfl, rfl, WF.start, .inr rfl, rfl, rfl⟩ fun m e hi => ?_
    obtain ⟨n, k4, x7, x8, rfl, hm, w, o4, o7, o8⟩ := hi
    have hQn := hQ n
    have hsh : SeqAt.shaped (.list ((turns steps n ⟨[(z, [])], [z]⟩).wait.map PyData.str)) = true := (LayAll.all (k := 0) (w := 8) fun d hd => by
      obtain ⟨y, hy, rfl⟩ := List.mem_map.mp hd
      rcases w.t y (w.a y hy) with rfl | ⟨l, hl, rfl⟩
      · exact Lay.str tz
      · exact Lay.str (htl l hl)).list.shaped (by decide)
    have hsucc := turns_succ steps n ⟨[(z, [])], [z]⟩
    generalize hS : turns steps n ⟨[(z, [])], [z]⟩ = S at w hm hQn hsucc hsh
    have hs0 : SeqAt.shaped (.list []) = true := rfl
    cases hw : S.wait with
    | nil =>
      push_cast [eF, hw, List.map_nil, eqv_nil, w_rows_from_5]
      exact ⟨⟨hs0, hs0⟩, hQn _ hw⟩
    | cons a t =>
      have hev : (PyData.list (S.wait.map PyData.str)).eqv (.list []) = false := by rw [hw, List.map_cons]; exact eqv_cons_nil
      have hm2 := mea_turn (steps := steps) hw
      have w2 : WF z steps (turn steps S) := by
        obtain ⟨w1, hh⟩ := w.pop hw
        have et : turn steps S = steps.foldl (PL.one a) ⟨S.found, t⟩ := by unfold turn; rw [hw]
        rw [et]
        exact WF.fold steps (fun _ h => h) w1 hh
      push_cast [eF, hev]
      refine ⟨⟨hsh, hs0⟩, fun e' => ∃ m', m' < m ∧ _, fun _ h => h, ?_⟩
      refine rows_turn w hsl hw o4 o7 o8 fun x7 x8 o7 o8 => ?_
      exact ⟨mea steps (turn steps S), by rw [hm]; exact hm2, n + 1, .fz, x7, x8, by rw [hsucc], by rw [hsucc], by rw [hsucc]; exact w2, .inl rfl, o7, o8⟩
end K14
set_option Elab.async false
set_option linter.all false
set_option autoImplicit false
set_option maxRecDepth 100000
set_option maxHeartbeats 4000000
namespace K14
open PySem PySem.Spec PyProof.Rows L2 PL
local macro_rules
  | `(tactic| push_cast [$xs,*]) => `(tactic| simp -dsimp -implicitDefEqProofs only [$xs,*, ↓w2_eq, ↓wT_eq, ↓wChain_eq, ↓wTru_eq, ↓wAndV_eq, ↓wOrV_eq, ↓wNotV_eq, ↓wNeg_eq, ↓wPart_eq, ↓wSl_eq, ↓wN_eq, ↓wM_eq, ↓wMut_eq, ↓wTup_eq, ↓wLst_eq, ↓wCall_eq, ↓wGTup_eq, ↓wGCons_eq, ↓wGSub_eq, ↓wIsi_eq, ↓wIsi2_eq, ↓wIt_eq, ↓wRng1_eq, ↓wRng2_eq, ↓wLenSc_eq, ↓wIxSc_eq, ↓wPar_eq, ↓asgn_eq, ↓asgn_fz, ↓asgn_ow, ↓asgn_loc, ↓retR_fz, ↓retR_ow, ↓retR_loc, ↓wFor_eq, ↓wLc_eq, ↓wVar_eq, ↓wC_eq, ↓wNil_eq, ↓wCons_eq, ↓wAndT_eq, ↓wOrT_eq, ↓wNotT_eq, ↓wIfE_eq, ↓wNoPart_eq, ↓wYes_eq, ↓wNext_eq, ↓wBreak_eq, ↓wCont_eq, ↓wSeq_eq, ↓wDrop_eq, ↓wRet_eq, ↓wRetN_eq, ↓wIf_eq, ↓wAsg_eq, ↓wGNil_eq, ↓gOfB_eq, ↓endsF_nx, ↓endsF_rt, ↓bnd_some, ↓bnd_none, ↓ind_int, ↓tst_bool, ↓tsto_bool, ↓locR_loc, ↓tupR_tup, ↓cns_cons, ↓two_two, ↓ints1_int, ↓ints2_int, ↓g1_eq, ↓g2_eq, ↓gEq_eq, ↓gNe_eq, ↓gRepr_eq, ↓gIn_one, ↓gIs_bb, ↓gIs_none, ↓gIn_list, ↓gIn_tuple, ↓gSl_list, ↓gSl_tuple, ↓gSl_str, ↓gIx_list, ↓gIx_tuple, ↓gIx_str, ↓gSetL_eq, ↓gSum_eq, ↓gBools_eq, ↓gJoin_eq, ↓gAdd.eq_1, ↓gAdd.eq_2, ↓gAdd.eq_3, ↓gAdd.eq_4, ↓PL.gSub.eq_1, ↓gMod.eq_1, ↓gDiv.eq_1, ↓gPow.eq_1, ↓gMul.eq_1, ↓gMul.eq_2, ↓gMul.eq_3, ↓gCmp.eq_1, ↓gCmp.eq_2, ↓gLen.eq_1, ↓gLen.eq_2, ↓gLen.eq_3, ↓gAbs.eq_1, ↓gInt.eq_1, ↓gInt.eq_2, ↓gI2.eq_1, ↓gTup1.eq_1, ↓gTup1.eq_2, ↓gLst1.eq_1, ↓gLst1.eq_2, ↓gAppend.eq_1, ↓gCount.eq_1, ↓gUpper.eq_1, ↓wGet1_eq, ↓wGet2_eq, ↓wNewK_eq, ↓wNewT_eq, ↓wTupO_eq, ↓wCallR_eq, ↓wParN_eq, ↓wPar3_eq, ↓wGTupL_eq, ↓wDisp1_eq, ↓wForK_eq, ↓gPopAt_0, ↓gStr_l, ↓gStr_t, ↓gLenA_l, ↓gLenA_t, ↓gLenA_s, ↓gLenA_d, ↓gMulT_eq, ↓gLtP_t, ↓gLtP_i, ↓gLtP_s, ↓asgnAll_nil, ↓asgnAll_cons, ↓wGSubT_eq, ↓wZip_eq, ↓gIxA_list, ↓gIxA_tuple, ↓gIxA_str, ↓gIxA_dict, ↓gInA_list, ↓gInA_tuple, ↓gInA_str, ↓gInA_dict, ↓gSetD_dict, ↓gDict1_tuple, ↓gDict1_list, ↓gReverse_list, ↓gExtend_list, ↓gLst2_list, ↓gLst2_tuple, ↓gLst2_dict, ↓gLst3_str, ↓gLst3_list, ↓gLst3_tuple, ↓gLst3_dict, ↓wRngDn_eq, ↓ints3_eq, ↓fzd_fz, ↓dcO_dict, ↓wIc_eq, ↓wItB_eq, ↓lstO_list, isK, fzO_list, fzO_dict, fzO_ts, fzO_ti, fzO_tl, eqv_int, eqv_str, eqv_bool, eqv_ns, eqv_sn, eqv_nn, eqv_ni, eqv_in, eqv_si, eqv_is, eqOk_int, eqOk_str, eqOk_bool, eqOk_ns, eqOk_sn, eqOk_nn, eqOk_ni, eqOk_in, eqOk_si, eqOk_is, beq_iff_eq, ixN_0, ixN_1, ixN_2, ixN_3, ixN_4, ixN_5, ixN_6, ixN_7, atI_0, atI_1, atI_2, atI_3, atI_4, atI_5, atI_6, atI_7, rVar, lookAll, ownAt?, look, frz, frzAll, Out.res, okSlot_eq, okO_some, okS_fz, okS_ow, okS_sc, okS_none, wipeE, restE, prep, back, lent, lentOk, outsOf, outsFrom, argE, Res.good, isTy, tyN, noDict, itD, scAt, owA, fixR, isL, isS, seqOf, truth, truOk, okF, nt, unp, unpL, dkAt, lookR, lookRs, okR, isScal, dicAt, dicOf, fixRs, keyT, List.getElem?_cons_zero, List.getElem?_cons_succ, List.set_cons_zero, List.set_cons_succ, List.replicate_zero, List.replicate_succ, List.cons_append, List.nil_append, List.append_nil, Option.some.injEq, Prod.mk.injEq, PyData.int.injEq, PyData.list.injEq, PyData.str.injEq, PyData.bool.injEq, PyData.tuple.injEq, Res.loc.injEq, Res.fz.injEq, Res.ow.injEq, and_true, true_and, List.length_cons, List.length_nil, if_true, if_false, reduceIte, Bool.false_eq_true, Option.map_some, List.cons.injEq, List.mem_cons, List.not_mem_nil, or_false, forall_eq, forall_eq_or_imp, not_true_eq_false, not_false_eq_true, Bool.not_true, Bool.not_false, forall_const, List.nodup_nil, List.nodup_cons, Option.isSome_some, Option.isSome_none, Option.map_none, Option.bind_some, Option.bind_none, decide_eq_true_eq, Nat.reduceLeDiff, Nat.reduceAdd, Nat.zero_add, exists_eq', Int.reduceLT, Int.reduceLE, Int.reduceNeg, Int.reducePow, Nat.reducePow, Int.reduceToNat, Int.reduceAdd, Int.reduceMul, Nat.reduceMul, Nat.reduceEqDiff, Nat.reduceSub, String.reduceBEq, beq_self_eq_true, Bool.and_true, Bool.true_and, Bool.or_true, Bool.true_or, Bool.or_false, Bool.false_or, Bool.and_false, Bool.false_and, Bool.not_eq_true, Bool.not_eq_false, reduceCtorEq])
  | `(tactic| push_cast) => `(tactic| simp -dsimp -implicitDefEqProofs only [↓w2_eq, ↓wT_eq, ↓wChain_eq, ↓wTru_eq, ↓wAndV_eq, ↓wOrV_eq, ↓wNotV_eq, ↓wNeg_eq, ↓wPart_eq, ↓wSl_eq, ↓wN_eq, ↓wM_eq, ↓wMut_eq, ↓wTup_eq, ↓wLst_eq, ↓wCall_eq, ↓wGTup_eq, ↓wGCons_eq, ↓wGSub_eq, ↓wIsi_eq, ↓wIsi2_eq, ↓wIt_eq, ↓wRng1_eq, ↓wRng2_eq, ↓wLenSc_eq, ↓wIxSc_eq, ↓wPar_eq, ↓asgn_eq, ↓asgn_fz, ↓asgn_ow, ↓asgn_loc, ↓retR_fz, ↓retR_ow, ↓retR_loc, ↓wFor_eq, ↓wLc_eq, ↓wVar_eq, ↓wC_eq, ↓wNil_eq, ↓wCons_eq, ↓wAndT_eq, ↓wOrT_eq, ↓wNotT_eq, ↓wIfE_eq, ↓wNoPart_eq, ↓wYes_eq, ↓wNext_eq, ↓wBreak_eq, ↓wCont_eq, ↓wSeq_eq, ↓wDrop_eq, ↓wRet_eq, ↓wRetN_eq, ↓wIf_eq, ↓wAsg_eq, ↓wGNil_eq, ↓gOfB_eq, ↓endsF_nx, ↓endsF_rt, ↓bnd_some, ↓bnd_none, ↓ind_int, ↓tst_bool, ↓tsto_bool, ↓locR_loc, ↓tupR_tup, ↓cns_cons, ↓two_two, ↓ints1_int, ↓ints2_int, ↓g1_eq, ↓g2_eq, ↓gEq_eq, ↓gNe_eq, ↓gRepr_eq, ↓gIn_one, ↓gIs_bb, ↓gIs_none, ↓gIn_list, ↓gIn_tuple, ↓gSl_list, ↓gSl_tuple, ↓gSl_str, ↓gIx_list, ↓gIx_tuple, ↓gIx_str, ↓gSetL_eq, ↓gSum_eq, ↓gBools_eq, ↓gJoin_eq, ↓gAdd.eq_1, ↓gAdd.eq_2, ↓gAdd.eq_3, ↓gAdd.eq_4, ↓PL.gSub.eq_1, ↓gMod.eq_1, ↓gDiv.eq_1, ↓gPow.eq_1, ↓gMul.eq_1, ↓gMul.eq_2, ↓gMul.eq_3, ↓gCmp.eq_1, ↓gCmp.eq_2, ↓gLen.eq_1, ↓gLen.eq_2, ↓gLen.eq_3, ↓gAbs.eq_1, ↓gInt.eq_1, ↓gInt.eq_2, ↓gI2.eq_1, ↓gTup1.eq_1, ↓gTup1.eq_2, ↓gLst1.eq_1, ↓gLst1.eq_2, ↓gAppend.eq_1, ↓gCount.eq_1, ↓gUpper.eq_1, ↓wGet1_eq, ↓wGet2_eq, ↓wNewK_eq, ↓wNewT_eq, ↓wTupO_eq, ↓wCallR_eq, ↓wParN_eq, ↓wPar3_eq, ↓wGTupL_eq, ↓wDisp1_eq, ↓wForK_eq, ↓gPopAt_0, ↓gStr_l, ↓gStr_t, ↓gLenA_l, ↓gLenA_t, ↓gLenA_s, ↓gLenA_d, ↓gMulT_eq, ↓gLtP_t, ↓gLtP_i, ↓gLtP_s, ↓asgnAll_nil, ↓asgnAll_cons, ↓wGSubT_eq, ↓wZip_eq, ↓gIxA_list, ↓gIxA_tuple, ↓gIxA_str, ↓gIxA_dict, ↓gInA_list, ↓gInA_tuple, ↓gInA_str, ↓gInA_dict, ↓gSetD_dict, ↓gDict1_tuple, ↓gDict1_list, ↓gReverse_list, ↓gExtend_list, ↓gLst2_list, ↓gLst2_tuple, ↓gLst2_dict, ↓gLst3_str, ↓gLst3_list, ↓gLst3_tuple, ↓gLst3_dict, ↓wRngDn_eq, ↓ints3_eq, ↓fzd_fz, ↓dcO_dict, ↓wIc_eq, ↓wItB_eq, ↓lstO_list, isK, fzO_list, fzO_dict, fzO_ts, fzO_ti, fzO_tl, eqv_int, eqv_str, eqv_bool, eqv_ns, eqv_sn, eqv_nn, eqv_ni, eqv_in, eqv_si, eqv_is, eqOk_int, eqOk_str, eqOk_bool, eqOk_ns, eqOk_sn, eqOk_nn, eqOk_ni, eqOk_in, eqOk_si, eqOk_is, beq_iff_eq, ixN_0, ixN_1, ixN_2, ixN_3, ixN_4, ixN_5, ixN_6, ixN_7, atI_0, atI_1, atI_2, atI_3, atI_4, atI_5, atI_6, atI_7, rVar, lookAll, ownAt?, look, frz, frzAll, Out.res, okSlot_eq, okO_some, okS_fz, okS_ow, okS_sc, okS_none, wipeE, restE, prep, back, lent, lentOk, outsOf, outsFrom, argE, Res.good, isTy, tyN, noDict, itD, scAt, owA, fixR, isL, isS, seqOf, truth, truOk, okF, nt, unp, unpL, dkAt, lookR, lookRs, okR, isScal, dicAt, dicOf, fixRs, keyT, List.getElem?_cons_zero, List.getElem?_cons_succ, List.set_cons_zero, List.set_cons_succ, List.replicate_zero, List.replicate_succ, List.cons_append, List.nil_append, List.append_nil, Option.some.injEq, Prod.mk.injEq, PyData.int.injEq, PyData.list.injEq, PyData.str.injEq, PyData.bool.injEq, PyData.tuple.injEq, Res.loc.injEq, Res.fz.injEq, Res.ow.injEq, and_true, true_and, List.length_cons, List.length_nil, if_true, if_false, reduceIte, Bool.false_eq_true, Option.map_some, List.cons.injEq, List.mem_cons, List.not_mem_nil, or_false, forall_eq, forall_eq_or_imp, not_true_eq_false, not_false_eq_true, Bool.not_true, Bool.not_false, forall_const, List.nodup_nil, List.nodup_cons, Option.isSome_some, Option.isSome_none, Option.map_none, Option.bind_some, Option.bind_none, decide_eq_true_eq, Nat.reduceLeDiff, Nat.reduceAdd, Nat.zero_add, exists_eq', Int.reduceLT, Int.reduceLE, Int.reduceNeg, Int.reducePow, Nat.reducePow, Int.reduceToNat, Int.reduceAdd, Int.reduceMul, Nat.reduceMul, Nat.reduceEqDiff, Nat.reduceSub, String.reduceBEq, beq_self_eq_true, Bool.and_true, Bool.true_and, Bool.or_true, Bool.true_or, Bool.or_false, Bool.false_or, Bool.and_false, Bool.false_and, Bool.not_eq_true, Bool.not_eq_false, reduceCtorEq])
theorem row_of_ok {hp : List (Str × Str)} {x1 x3 : D} {part z y : Str} {tot day : Int} {sides : List Str} {ls : List Lv} {ps : List (Str × Str)} {Q : Res → List D → Prop} (hr : Rooted ps) (hpm : hp.Perm ps) (hl : ps.length ≤ 1000) (hll : ls.length ≤ 1000) (tz : TOk 8 z) (tl : ∀ l ∈ ls, TOk 8 l.taker)
    (h0 : z ∈ sides → ∀ o, Q (.fz .none) o) (hQ : z ∉ sides → ∀ n o, (turns (stepsF sides (over ps part) tot day ls) n ⟨[(z, [])], [z]⟩).wait = [] → Q (.fz (match rowAt (turns (stepsF sides (over ps part) tot day ls) n ⟨[(z, [])], [z]⟩).found y with | none => .none | some r => .list (r.map .int))) o) :
    g_row_of [.tuple [.tuple (hp.map pD), x1, .tuple (ls.map Lv.d), x3], .tuple (.str part :: .int tot :: sides.map .str), .str z, .str y, .int day] Q := by
  push_cast [g_row_of, w_row_of, w_row_of_0]
  refine callT_of (rows_from_ok hr hpm hl hll tz tl (fun hz o _ hol => ?_) fun hz n o hw _ hol => ?_)
  · match o, hol with
    | [p1, p2, p3, p4], _ =>
    push_cast
    exact ⟨rfl, h0 hz _⟩
  · have hlk := fD_look (turns (stepsF sides (over ps part) tot day ls) n ⟨[(z, [])], [z]⟩).found y
    have hko := fD_ok (turns (stepsF sides (over ps part) tot day ls) n ⟨[(z, [])], [z]⟩).found y
    match o, hol with
    | [p1, p2, p3, p4], _ =>
    push_cast [hlk, hko]
    have := hQ hz n [PyData.none, PyData.none, PyData.none, PyData.none, PyData.none] hw
    generalize rowAt (turns (stepsF sides (over ps part) tot day ls) n ⟨[(z, [])], [z]⟩).found y = ro at this
    cases ro with
    | none => exact this
    | some r => exact this
def LBox (n : Nat) (d : D) : Prop := ∃ a b c : Int, d = .list [.int a, .int b, .int c] ∧ 0 ≤ a ∧ 0 ≤ c ∧ c ≤ n
theorem LBox.mono {n m : Nat} {d : D} (h : LBox n d) (hm : n ≤ m) : LBox m d := by
  obtain ⟨a, b, c, e, h1, h2, h3⟩ := h
  exact ⟨a, b, c, e, h1, h2, by omega⟩
theorem mix_ok {cell k : Int} {Q : Res → List D → Prop} (h0 : 0 ≤ k) (h1 : k ≤ 3000000000) (hQ : ∀ r o, 0 ≤ r → r < 1999999973 → Q (.fz (.int r)) o) : g__law_mix [.int cell, .int k] Q := by
  push_cast [g__law_mix, w__law_mix, w__law_mix_0, w__law_mix_1]
  generalize (cell % 2147483629 + k * k * 7919 + 11) * 48271 = X
  exact ⟨.inl ⟨by omega, by omega⟩, .inr trivial, .inr trivial, .inl ⟨by omega, by omega⟩, hQ _ _ (Int.emod_nonneg _ (by omega)) (Int.emod_lt_of_pos _ (by omega))⟩
theorem pick_ok {n : Nat} {m : Int} {box : D} {Q : Res → List D → Prop} (h : LBox n box) (hn : n ≤ 1000000) (h0 : 0 < m) (h1 : m < 1073741824) (hQ : ∀ r box', LBox (n + 1) box' → 0 ≤ r → r < m → Q (.fz (.int r)) [box', .none]) : g__law_pick [box, .int m] Q := by
  obtain ⟨a, b, c, rfl, q1, q2, q3⟩ := h
  push_cast [g__law_pick, w__law_pick, w__law_pick_0, w__law_pick_1]
  split
  · exact ⟨h0, ⟨h0, h1⟩, hQ _ _ ⟨_, _, _, rfl, Int.ediv_nonneg (by omega) (by omega), by omega, by omega⟩ (Int.emod_nonneg _ (by omega)) (Int.emod_lt_of_pos _ h0)⟩
  · push_cast [w__law_pick_2]
    refine mix_ok (by omega) (by omega) fun r1 o r10 r11 _ _ => ?_
    push_cast
    refine mix_ok (by omega) (by omega) fun r2 o r20 r21 _ _ => ?_
    push_cast
    first
      | exact ⟨h0, hQ _ _ ⟨_, _, _, rfl, q1, by omega, by omega⟩ (Int.emod_nonneg _ (by omega)) (Int.emod_lt_of_pos _ h0)⟩
      | (trace_state; fail)
theorem drawn_ok {ns : List Int} {k : Int} {Q : Res → List D → Prop} (h0 : 0 ≤ k) (h1 : k ≤ 63) (hQ : ∀ b o, LBox 0 b → Q (.ow b) o) : g__law_drawn_from [.list (ns.map .int), .int k] Q := by
  have fin : ∀ cell : Int, w__law_drawn_from_1 (endsF [Kd.sc, Kd.fz] Q) [some (.sc, .list (ns.map .int)), some (.fz, .int k), some (.fz, .int cell)] := by
    intro cell
    push_cast [w__law_drawn_from_1]
    refine ⟨by decide, ?_⟩
    have ha : 0 ≤ (if cell < 0 then -cell else cell) := by split <;> omega
    generalize (if cell < 0 then -cell else cell) = ab at ha
    by_cases hc : 1000000000000000000 ≤ ab
    · rw [if_pos hc]
      push_cast
      first | exact ⟨.inl trivial, hQ _ _ ⟨_, _, _, rfl, ha, by omega, by omega⟩⟩ | exact hQ _ _ ⟨_, _, _, rfl, ha, by omega, by omega⟩ | exact ⟨.inr ⟨by omega, by omega⟩, hQ _ _ ⟨_, _, _, rfl, ha, by omega, by omega⟩⟩ | fail
    · rw [if_neg hc]
      push_cast
      first | exact ⟨.inl trivial, hQ _ _ ⟨_, _, _, rfl, by omega, by omega, by omega⟩⟩ | exact hQ _ _ ⟨_, _, _, rfl, by omega, by omega, by omega⟩ | exact ⟨.inr ⟨by omega, by omega⟩, hQ _ _ ⟨_, _, _, rfl, by omega, by omega, by omega⟩⟩ | fail
  push_cast [g__law_drawn_from, w__law_drawn_from, w__law_drawn_from_0]
  split
  · rename_i h
    rw [List.length_map] at h
    obtain ⟨m, hm⟩ := atI_map h0 h
    push_cast [hm]
    exact fin _
  · exact fin _
end K14
set_option Elab.async false
set_option linter.all false
set_option autoImplicit false
set_option maxRecDepth 100000
set_option maxHeartbeats 4000000
namespace K14
open PySem PySem.Spec PyProof.Rows L2 PL
local macro_rules
  | `(tactic| push_cast [$xs,*]) => `(tactic| simp -dsimp -implicitDefEqProofs only [$xs,*, ↓w2_eq, ↓wT_eq, ↓wChain_eq, ↓wTru_eq, ↓wAndV_eq, ↓wOrV_eq, ↓wNotV_eq, ↓wNeg_eq, ↓wPart_eq, ↓wSl_eq, ↓wN_eq, ↓wM_eq, ↓wMut_eq, ↓wTup_eq, ↓wLst_eq, ↓wCall_eq, ↓wGTup_eq, ↓wGCons_eq, ↓wGSub_eq, ↓wIsi_eq, ↓wIsi2_eq, ↓wIt_eq, ↓wRng1_eq, ↓wRng2_eq, ↓wLenSc_eq, ↓wIxSc_eq, ↓wPar_eq, ↓asgn_eq, ↓asgn_fz, ↓asgn_ow, ↓asgn_loc, ↓retR_fz, ↓retR_ow, ↓retR_loc, ↓wFor_eq, ↓wLc_eq, ↓wVar_eq, ↓wC_eq, ↓wNil_eq, ↓wCons_eq, ↓wAndT_eq, ↓wOrT_eq, ↓wNotT_eq, ↓wIfE_eq, ↓wNoPart_eq, ↓wYes_eq, ↓wNext_eq, ↓wBreak_eq, ↓wCont_eq, ↓wSeq_eq, ↓wDrop_eq, ↓wRet_eq, ↓wRetN_eq, ↓wIf_eq, ↓wAsg_eq, ↓wGNil_eq, ↓gOfB_eq, ↓endsF_nx, ↓endsF_rt, ↓bnd_some, ↓bnd_none, ↓ind_int, ↓tst_bool, ↓tsto_bool, ↓locR_loc, ↓tupR_tup, ↓cns_cons, ↓two_two, ↓ints1_int, ↓ints2_int, ↓g1_eq, ↓g2_eq, ↓gEq_eq, ↓gNe_eq, ↓gRepr_eq, ↓gIn_one, ↓gIs_bb, ↓gIs_none, ↓gIn_list, ↓gIn_tuple, ↓gSl_list, ↓gSl_tuple, ↓gSl_str, ↓gIx_list, ↓gIx_tuple, ↓gIx_str, ↓gSetL_eq, ↓gSum_eq, ↓gBools_eq, ↓gJoin_eq, ↓gAdd.eq_1, ↓gAdd.eq_2, ↓gAdd.eq_3, ↓gAdd.eq_4, ↓PL.gSub.eq_1, ↓gMod.eq_1, ↓gDiv.eq_1, ↓gPow.eq_1, ↓gMul.eq_1, ↓gMul.eq_2, ↓gMul.eq_3, ↓gCmp.eq_1, ↓gCmp.eq_2, ↓gLen.eq_1, ↓gLen.eq_2, ↓gLen.eq_3, ↓gAbs.eq_1, ↓gInt.eq_1, ↓gInt.eq_2, ↓gI2.eq_1, ↓gTup1.eq_1, ↓gTup1.eq_2, ↓gLst1.eq_1, ↓gLst1.eq_2, ↓gAppend.eq_1, ↓gCount.eq_1, ↓gUpper.eq_1, ↓wGet1_eq, ↓wGet2_eq, ↓wNewK_eq, ↓wNewT_eq, ↓wTupO_eq, ↓wCallR_eq, ↓wParN_eq, ↓wPar3_eq, ↓wGTupL_eq, ↓wDisp1_eq, ↓wForK_eq, ↓gPopAt_0, ↓gStr_l, ↓gStr_t, ↓gLenA_l, ↓gLenA_t, ↓gLenA_s, ↓gLenA_d, ↓gMulT_eq, ↓gLtP_t, ↓gLtP_i, ↓gLtP_s, ↓asgnAll_nil, ↓asgnAll_cons, ↓wGSubT_eq, ↓wZip_eq, ↓gIxA_list, ↓gIxA_tuple, ↓gIxA_str, ↓gIxA_dict, ↓gInA_list, ↓gInA_tuple, ↓gInA_str, ↓gInA_dict, ↓gSetD_dict, ↓gDict1_tuple, ↓gDict1_list, ↓gReverse_list, ↓gExtend_list, ↓gLst2_list, ↓gLst2_tuple, ↓gLst2_dict, ↓gLst3_str, ↓gLst3_list, ↓gLst3_tuple, ↓gLst3_dict, ↓wRngDn_eq, ↓ints3_eq, ↓fzd_fz, ↓dcO_dict, ↓wIc_eq, ↓wItB_eq, ↓lstO_list, isK, fzO_list, fzO_dict, fzO_ts, fzO_ti, fzO_tl, eqv_int, eqv_str, eqv_bool, eqv_ns, eqv_sn, eqv_nn, eqv_ni, eqv_in, eqv_si, eqv_is, eqOk_int, eqOk_str, eqOk_bool, eqOk_ns, eqOk_sn, eqOk_nn, eqOk_ni, eqOk_in, eqOk_si, eqOk_is, beq_iff_eq, ixN_0, ixN_1, ixN_2, ixN_3, ixN_4, ixN_5, ixN_6, ixN_7, atI_0, atI_1, atI_2, atI_3, atI_4, atI_5, atI_6, atI_7, rVar, lookAll, ownAt?, look, frz, frzAll, Out.res, okSlot_eq, okO_some, okS_fz, okS_ow, okS_sc, okS_none, wipeE, restE, prep, back, lent, lentOk, outsOf, outsFrom, argE, Res.good, isTy, tyN, noDict, itD, scAt, owA, fixR, isL, isS, seqOf, truth, truOk, okF, nt, unp, unpL, dkAt, lookR, lookRs, okR, isScal, dicAt, dicOf, fixRs, keyT, List.getElem?_cons_zero, List.getElem?_cons_succ, List.set_cons_zero, List.set_cons_succ, List.replicate_zero, List.replicate_succ, List.cons_append, List.nil_append, List.append_nil, Option.some.injEq, Prod.mk.injEq, PyData.int.injEq, PyData.list.injEq, PyData.str.injEq, PyData.bool.injEq, PyData.tuple.injEq, Res.loc.injEq, Res.fz.injEq, Res.ow.injEq, and_true, true_and, List.length_cons, List.length_nil, if_true, if_false, reduceIte, Bool.false_eq_true, Option.map_some, List.cons.injEq, List.mem_cons, List.not_mem_nil, or_false, forall_eq, forall_eq_or_imp, not_true_eq_false, not_false_eq_true, Bool.not_true, Bool.not_false, forall_const, List.nodup_nil, List.nodup_cons, Option.isSome_some, Option.isSome_none, Option.map_none, Option.bind_some, Option.bind_none, decide_eq_true_eq, Nat.reduceLeDiff, Nat.reduceAdd, Nat.zero_add, exists_eq', Int.reduceLT, Int.reduceLE, Int.reduceNeg, Int.reducePow, Nat.reducePow, Int.reduceToNat, Int.reduceAdd, Int.reduceMul, Nat.reduceMul, Nat.reduceEqDiff, Nat.reduceSub, String.reduceBEq, beq_self_eq_true, Bool.and_true, Bool.true_and, Bool.or_true, Bool.true_or, Bool.or_false, Bool.false_or, Bool.and_false, Bool.false_and, Bool.not_eq_true, Bool.not_eq_false, reduceCtorEq])
  | `(tactic| push_cast) => `(tactic| simp -dsimp -implicitDefEqProofs only [↓w2_eq, ↓wT_eq, ↓wChain_eq, ↓wTru_eq, ↓wAndV_eq, ↓wOrV_eq, ↓wNotV_eq, ↓wNeg_eq, ↓wPart_eq, ↓wSl_eq, ↓wN_eq, ↓wM_eq, ↓wMut_eq, ↓wTup_eq, ↓wLst_eq, ↓wCall_eq, ↓wGTup_eq, ↓wGCons_eq, ↓wGSub_eq, ↓wIsi_eq, ↓wIsi2_eq, ↓wIt_eq, ↓wRng1_eq, ↓wRng2_eq, ↓wLenSc_eq, ↓wIxSc_eq, ↓wPar_eq, ↓asgn_eq, ↓asgn_fz, ↓asgn_ow, ↓asgn_loc, ↓retR_fz, ↓retR_ow, ↓retR_loc, ↓wFor_eq, ↓wLc_eq, ↓wVar_eq, ↓wC_eq, ↓wNil_eq, ↓wCons_eq, ↓wAndT_eq, ↓wOrT_eq, ↓wNotT_eq, ↓wIfE_eq, ↓wNoPart_eq, ↓wYes_eq, ↓wNext_eq, ↓wBreak_eq, ↓wCont_eq, ↓wSeq_eq, ↓wDrop_eq, ↓wRet_eq, ↓wRetN_eq, ↓wIf_eq, ↓wAsg_eq, ↓wGNil_eq, ↓gOfB_eq, ↓endsF_nx, ↓endsF_rt, ↓bnd_some, ↓bnd_none, ↓ind_int, ↓tst_bool, ↓tsto_bool, ↓locR_loc, ↓tupR_tup, ↓cns_cons, ↓two_two, ↓ints1_int, ↓ints2_int, ↓g1_eq, ↓g2_eq, ↓gEq_eq, ↓gNe_eq, ↓gRepr_eq, ↓gIn_one, ↓gIs_bb, ↓gIs_none, ↓gIn_list, ↓gIn_tuple, ↓gSl_list, ↓gSl_tuple, ↓gSl_str, ↓gIx_list, ↓gIx_tuple, ↓gIx_str, ↓gSetL_eq, ↓gSum_eq, ↓gBools_eq, ↓gJoin_eq, ↓gAdd.eq_1, ↓gAdd.eq_2, ↓gAdd.eq_3, ↓gAdd.eq_4, ↓PL.gSub.eq_1, ↓gMod.eq_1, ↓gDiv.eq_1, ↓gPow.eq_1, ↓gMul.eq_1, ↓gMul.eq_2, ↓gMul.eq_3, ↓gCmp.eq_1, ↓gCmp.eq_2, ↓gLen.eq_1, ↓gLen.eq_2, ↓gLen.eq_3, ↓gAbs.eq_1, ↓gInt.eq_1, ↓gInt.eq_2, ↓gI2.eq_1, ↓gTup1.eq_1, ↓gTup1.eq_2, ↓gLst1.eq_1, ↓gLst1.eq_2, ↓gAppend.eq_1, ↓gCount.eq_1, ↓gUpper.eq_1, ↓wGet1_eq, ↓wGet2_eq, ↓wNewK_eq, ↓wNewT_eq, ↓wTupO_eq, ↓wCallR_eq, ↓wParN_eq, ↓wPar3_eq, ↓wGTupL_eq, ↓wDisp1_eq, ↓wForK_eq, ↓gPopAt_0, ↓gStr_l, ↓gStr_t, ↓gLenA_l, ↓gLenA_t, ↓gLenA_s, ↓gLenA_d, ↓gMulT_eq, ↓gLtP_t, ↓gLtP_i, ↓gLtP_s, ↓asgnAll_nil, ↓asgnAll_cons, ↓wGSubT_eq, ↓wZip_eq, ↓gIxA_list, ↓gIxA_tuple, ↓gIxA_str, ↓gIxA_dict, ↓gInA_list, ↓gInA_tuple, ↓gInA_str, ↓gInA_dict, ↓gSetD_dict, ↓gDict1_tuple, ↓gDict1_list, ↓gReverse_list, ↓gExtend_list, ↓gLst2_list, ↓gLst2_tuple, ↓gLst2_dict, ↓gLst3_str, ↓gLst3_list, ↓gLst3_tuple, ↓gLst3_dict, ↓wRngDn_eq, ↓ints3_eq, ↓fzd_fz, ↓dcO_dict, ↓wIc_eq, ↓wItB_eq, ↓lstO_list, isK, fzO_list, fzO_dict, fzO_ts, fzO_ti, fzO_tl, eqv_int, eqv_str, eqv_bool, eqv_ns, eqv_sn, eqv_nn, eqv_ni, eqv_in, eqv_si, eqv_is, eqOk_int, eqOk_str, eqOk_bool, eqOk_ns, eqOk_sn, eqOk_nn, eqOk_ni, eqOk_in, eqOk_si, eqOk_is, beq_iff_eq, ixN_0, ixN_1, ixN_2, ixN_3, ixN_4, ixN_5, ixN_6, ixN_7, atI_0, atI_1, atI_2, atI_3, atI_4, atI_5, atI_6, atI_7, rVar, lookAll, ownAt?, look, frz, frzAll, Out.res, okSlot_eq, okO_some, okS_fz, okS_ow, okS_sc, okS_none, wipeE, restE, prep, back, lent, lentOk, outsOf, outsFrom, argE, Res.good, isTy, tyN, noDict, itD, scAt, owA, fixR, isL, isS, seqOf, truth, truOk, okF, nt, unp, unpL, dkAt, lookR, lookRs, okR, isScal, dicAt, dicOf, fixRs, keyT, List.getElem?_cons_zero, List.getElem?_cons_succ, List.set_cons_zero, List.set_cons_succ, List.replicate_zero, List.replicate_succ, List.cons_append, List.nil_append, List.append_nil, Option.some.injEq, Prod.mk.injEq, PyData.int.injEq, PyData.list.injEq, PyData.str.injEq, PyData.bool.injEq, PyData.tuple.injEq, Res.loc.injEq, Res.fz.injEq, Res.ow.injEq, and_true, true_and, List.length_cons, List.length_nil, if_true, if_false, reduceIte, Bool.false_eq_true, Option.map_some, List.cons.injEq, List.mem_cons, List.not_mem_nil, or_false, forall_eq, forall_eq_or_imp, not_true_eq_false, not_false_eq_true, Bool.not_true, Bool.not_false, forall_const, List.nodup_nil, List.nodup_cons, Option.isSome_some, Option.isSome_none, Option.map_none, Option.bind_some, Option.bind_none, decide_eq_true_eq, Nat.reduceLeDiff, Nat.reduceAdd, Nat.zero_add, exists_eq', Int.reduceLT, Int.reduceLE, Int.reduceNeg, Int.reducePow, Nat.reducePow, Int.reduceToNat, Int.reduceAdd, Int.reduceMul, Nat.reduceMul, Nat.reduceEqDiff, Nat.reduceSub, String.reduceBEq, beq_self_eq_true, Bool.and_true, Bool.true_and, Bool.or_true, Bool.true_or, Bool.or_false, Bool.false_or, Bool.and_false, Bool.false_and, Bool.not_eq_true, Bool.not_eq_false, reduceCtorEq])
abbrev psD (ps : List (Str × Str)) : D := .dict (ps.map fun p => (PyData.str p.1, PyData.str p.2))
theorem law_over_ok {z : Str} {ps : List (Str × Str)} {Q : Res → List D → Prop} (hr : Rooted ps) (hl : ps.length ≤ 1000) (hQ : ∀ o, Q (.ow (.list ((over ps z).map .str))) o) : g__law_parts_over [psD ps, .str z] Q := by
  push_cast [g__law_parts_over, w__law_parts_over, w__law_parts_over_0, w__law_parts_over_1, psD]
  refine while_inv (fun m e => ∃ (done : List Str) (y : Str), e = [some (.fz, .dict (ps.map fun p => (PyData.str p.1, PyData.str p.2))), some (.fz, .str y), some (.ow, .list (done.map .str))] ∧ done ++ over ps y = over ps z ∧ m = (over ps y).length) (over ps z).length ⟨[], z, rfl, rfl, rfl⟩ fun m e hi => ?_
  obtain ⟨done, y, rfl, hd, hm⟩ := hi
  have hlk : lookD (ps.map fun p => (PyData.str p.1, PyData.str p.2)) (.str y) = (lk ps y).map PyData.str := by
    rw [lookD_map (fun p : Str × Str => p.1) (fun p => PyData.str p.2)]
    unfold lk
    rw [Option.map_map]; rfl
  have hko := keyOk_map (fun p : Str × Str => p.1) (fun p => PyData.str p.2) y ps
  have hlen := over_len ps z
  rw [← hd, List.length_append] at hlen
  push_cast [hlk, hko]
  by_cases hy : y ∈ ps.map Prod.fst
  · obtain ⟨p, hp', rfl⟩ := List.mem_map.mp hy
    rw [over_mem hr hp'] at hd hm
    have hlk2 := lk_mem hr.nd hp'
    push_cast [hlk2]
    refine ⟨fun e' => ∃ m', m' < m ∧ _, fun _ h => h, ?_⟩
    push_cast [b__law_parts_over_1, b__law_parts_over_1_0, b__law_parts_over_1_1, hlk, hlk2, hko]
    refine ⟨by rw [List.length_map]; omega, (over ps p.2).length, by rw [hm, List.length_cons]; omega, done ++ [p.1], p.2, by rw [List.map_append]; exact ⟨rfl, rfl⟩, by rw [List.append_assoc]; exact hd, rfl⟩
  · have hlk2 := lk_none.mpr hy
    rw [over_none hy, List.append_nil] at hd
    subst hd
    push_cast [hlk2, w__law_parts_over_2]
    exact hQ _
def letsF (sides ov : List Str) (tot day : Int) (l : Lv) : Bool := (decide (l.giver ∉ sides) && decide (l.taker ∉ sides)) && letsB ov tot day l
theorem house_of_ok {ps : List (Str × Str)} {ls : List Lv} {Q : Res → List D → Prop} (hr : Rooted ps) (ht : ∀ p ∈ ps, TOk 8 p.1 ∧ TOk 8 p.2) (hll : ls.length ≤ 1000)
    (hQ : ∀ (hp : List (Str × Str)) o, hp.Perm ps → Q (.fz (.tuple [.tuple (hp.map pD), .tuple [], .tuple (ls.map Lv.d), .tuple []])) o) : g__law_house_of [psD ps, .list (ls.map Lv.d)] Q := by
  obtain ⟨hp, hpm, he⟩ := perm_map_exists (sortD_perm (ps.map pD))
  have hks : (ps.map fun p => ((Sum.inr p.1 : Key), (Sum.inr p.2 : Key))).map pDt = ps.map pD := by rw [List.map_map]; rfl
  push_cast [g__law_house_of, w__law_house_of, w__law_house_of_0, psD]
  unfold wSortIt
  push_cast
  refine ⟨ps.map fun p => (Sum.inr p.1, Sum.inr p.2), ?_, ?_, ?_, ?_, ?_⟩
  · rw [List.map_map]; rfl
  · intro q hq
    obtain ⟨p, hp, rfl⟩ := List.mem_map.mp hq
    obtain ⟨h1, h2⟩ := ht p hp
    show (PyData.tuple [.str p.1, .str p.2]).canLay0 = true ∧ (PyData.tuple [.str p.1, .str p.2]).depth ≤ 64
    refine ⟨?_, by simp [PyData.depth, PyData.depthAll]⟩
    rw [PyData.canLay0, PyData.canLayAll0, PyData.canLayAll0, PyData.canLayAll0, h1.strOk, h2.strOk]; rfl
  · rw [hks]
    intro d hd e he
    obtain ⟨p, _, rfl⟩ := List.mem_map.mp hd
    obtain ⟨q, _, rfl⟩ := List.mem_map.mp he
    rfl
  · rw [hks]
    refine .inl fun d hd => ?_
    obtain ⟨p, _, rfl⟩ := List.mem_map.mp hd
    exact ⟨_, _, rfl⟩
  · rw [hks, he]
    exact hQ hp _ hpm
theorem rising_ok {n : Nat} {m : Int} {box : D} {Q : Res → List D → Prop} (h : LBox n box) (hn : n ≤ 900000) (h0 : 0 ≤ m) (h1 : m ≤ 100) (hQ : ∀ (ns : List Int) box', LBox (n + 1 + 2 * m.toNat) box' → ns.length = m.toNat → ns.Pairwise (· < ·) → (∀ x ∈ ns, 0 ≤ x ∧ x ≤ 1000) → Q (.ow (.list (ns.map .int))) [box', .none]) : g__law_rising [box, .int m] Q := by
  push_cast [g__law_rising, w__law_rising, w__law_rising_0]
  refine callT_of (pick_ok h (by omega) (by decide) (by decide) fun r b1 hb1 r0 r1 _ _ => ?_)
  push_cast [w__law_rising_1]
  refine ⟨by omega, ?_⟩
  refine forLT_inv (fun i e => ∃ (b : D) (ns : List Int) (lst : Int) (x4 : Slot), e = [some (.io, b), some (.fz, .int m), some (.ow, .list (ns.map .int)), some (.fz, .int lst), x4] ∧ okS x4 = true ∧ LBox (n + 1 + 2 * i) b ∧ ns.length = i ∧ ns.Pairwise (· < ·) ∧ (∀ x ∈ ns, 0 ≤ x ∧ x < lst) ∧ 0 ≤ lst ∧ lst ≤ 2 + 3 * i) ⟨b1, [], r, none, rfl, rfl, hb1, rfl, .nil, fun x hx => (by cases hx), r0, by omega⟩ (fun i d e K hd hi hk => ?_) (fun e hi => ?_)
  · obtain ⟨b, ns, lst, x4, rfl, o4, hb, hl, hp, hx, l0, l1⟩ := hi
    obtain ⟨hi, rfl⟩ := rngD_get hd
    push_cast [o4, b__law_rising_1, b__law_rising_1_0, b__law_rising_1_1]
    refine ⟨by rw [List.length_map]; omega, callT_of (pick_ok hb (by omega) (by decide) (by decide) fun r1 b1 hb1 r10 r11 _ _ => ?_)⟩
    push_cast
    refine callT_of (pick_ok hb1 (by omega) (by decide) (by decide) fun r2 b2 hb2 r20 r21 _ _ => ?_)
    push_cast
    have hm : 0 ≤ r1 * r2 ∧ r1 * r2 ≤ 2 := by
      rcases (show r1 = 0 ∨ r1 = 1 by omega) with rfl | rfl <;> omega
    refine ⟨.inl ⟨by omega, by omega⟩, hk _ ⟨b2, ns ++ [lst], lst + 1 + r1 * r2, _, by rw [List.map_append]; rfl, rfl, hb2.mono (by omega), by simp [hl], ?_, ?_, by omega, by omega⟩⟩
    · rw [List.pairwise_append]
      exact ⟨hp, by simp, fun x hx' y hy => by rw [List.mem_singleton.mp hy]; exact (hx x hx').2⟩
    · intro x hx'
      rcases List.mem_append.mp hx' with q | q
      · have := hx x q; omega
      · rw [List.mem_singleton.mp q]; omega
  · obtain ⟨b, ns, lst, x4, rfl, o4, hb, hl, hp, hx, l0, l1⟩ := hi
    push_cast [w__law_rising_2]
    have hlen : (rngD 0 m.toNat).length = m.toNat := by simp [rngD]
    first
      | exact hQ ns b (hb.mono (by simp [rngD] at *)) (by simpa [rngD] using hl) hp fun x q => by have := hx x q; simp [rngD] at l1; omega
      | (trace_state; fail)
end K14
set_option Elab.async false
set_option linter.all false
set_option autoImplicit false
set_option maxRecDepth 100000
set_option maxHeartbeats 4000000
namespace K14
open PySem PySem.Spec PyProof.Rows L2 PL
local macro_rules
  | `(tactic| push_cast [$xs,*]) => `(tactic| simp -dsimp -implicitDefEqProofs only [$xs,*, ↓w2_eq, ↓wT_eq, ↓wChain_eq, ↓wTru_eq, ↓wAndV_eq, ↓wOrV_eq, ↓wNotV_eq, ↓wNeg_eq, ↓wPart_eq, ↓wSl_eq, ↓wN_eq, ↓wM_eq, ↓wMut_eq, ↓wTup_eq, ↓wLst_eq, ↓wCall_eq, ↓wGTup_eq, ↓wGCons_eq, ↓wGSub_eq, ↓wIsi_eq, ↓wIsi2_eq, ↓wIt_eq, ↓wRng1_eq, ↓wRng2_eq, ↓wLenSc_eq, ↓wIxSc_eq, ↓wPar_eq, ↓asgn_eq, ↓asgn_fz, ↓asgn_ow, ↓asgn_loc, ↓retR_fz, ↓retR_ow, ↓retR_loc, ↓wFor_eq, ↓wLc_eq, ↓wVar_eq, ↓wC_eq, ↓wNil_eq, ↓wCons_eq, ↓wAndT_eq, ↓wOrT_eq, ↓wNotT_eq, ↓wIfE_eq, ↓wNoPart_eq, ↓wYes_eq, ↓wNext_eq, ↓wBreak_eq, ↓wCont_eq, ↓wSeq_eq, ↓wDrop_eq, ↓wRet_eq, ↓wRetN_eq, ↓wIf_eq, ↓wAsg_eq, ↓wGNil_eq, ↓gOfB_eq, ↓endsF_nx, ↓endsF_rt, ↓bnd_some, ↓bnd_none, ↓ind_int, ↓tst_bool, ↓tsto_bool, ↓locR_loc, ↓tupR_tup, ↓cns_cons, ↓two_two, ↓ints1_int, ↓ints2_int, ↓g1_eq, ↓g2_eq, ↓gEq_eq, ↓gNe_eq, ↓gRepr_eq, ↓gIn_one, ↓gIs_bb, ↓gIs_none, ↓gIn_list, ↓gIn_tuple, ↓gSl_list, ↓gSl_tuple, ↓gSl_str, ↓gIx_list, ↓gIx_tuple, ↓gIx_str, ↓gSetL_eq, ↓gSum_eq, ↓gBools_eq, ↓gJoin_eq, ↓gAdd.eq_1, ↓gAdd.eq_2, ↓gAdd.eq_3, ↓gAdd.eq_4, ↓PL.gSub.eq_1, ↓gMod.eq_1, ↓gDiv.eq_1, ↓gPow.eq_1, ↓gMul.eq_1, ↓gMul.eq_2, ↓gMul.eq_3, ↓gCmp.eq_1, ↓gCmp.eq_2, ↓gLen.eq_1, ↓gLen.eq_2, ↓gLen.eq_3, ↓gAbs.eq_1, ↓gInt.eq_1, ↓gInt.eq_2, ↓gI2.eq_1, ↓gTup1.eq_1, ↓gTup1.eq_2, ↓gLst1.eq_1, ↓gLst1.eq_2, ↓gAppend.eq_1, ↓gCount.eq_1, ↓gUpper.eq_1, ↓wGet1_eq, ↓wGet2_eq, ↓wNewK_eq, ↓wNewT_eq, ↓wTupO_eq, ↓wCallR_eq, ↓wParN_eq, ↓wPar3_eq, ↓wGTupL_eq, ↓wDisp1_eq, ↓wForK_eq, ↓gPopAt_0, ↓gStr_l, ↓gStr_t, ↓gLenA_l, ↓gLenA_t, ↓gLenA_s, ↓gLenA_d, ↓gMulT_eq, ↓gLtP_t, ↓gLtP_i, ↓gLtP_s, ↓asgnAll_nil, ↓asgnAll_cons, ↓wGSubT_eq, ↓wZip_eq, ↓gIxA_list, ↓gIxA_tuple, ↓gIxA_str, ↓gIxA_dict, ↓gInA_list, ↓gInA_tuple, ↓gInA_str, ↓gInA_dict, ↓gSetD_dict, ↓gDict1_tuple, ↓gDict1_list, ↓gReverse_list, ↓gExtend_list, ↓gLst2_list, ↓gLst2_tuple, ↓gLst2_dict, ↓gLst3_str, ↓gLst3_list, ↓gLst3_tuple, ↓gLst3_dict, ↓wRngDn_eq, ↓ints3_eq, ↓fzd_fz, ↓dcO_dict, ↓wIc_eq, ↓wItB_eq, ↓lstO_list, isK, fzO_list, fzO_dict, fzO_ts, fzO_ti, fzO_tl, eqv_int, eqv_str, eqv_bool, eqv_ns, eqv_sn, eqv_nn, eqv_ni, eqv_in, eqv_si, eqv_is, eqOk_int, eqOk_str, eqOk_bool, eqOk_ns, eqOk_sn, eqOk_nn, eqOk_ni, eqOk_in, eqOk_si, eqOk_is, beq_iff_eq, ixN_0, ixN_1, ixN_2, ixN_3, ixN_4, ixN_5, ixN_6, ixN_7, atI_0, atI_1, atI_2, atI_3, atI_4, atI_5, atI_6, atI_7, rVar, lookAll, ownAt?, look, frz, frzAll, Out.res, okSlot_eq, okO_some, okS_fz, okS_ow, okS_sc, okS_none, wipeE, restE, prep, back, lent, lentOk, outsOf, outsFrom, argE, Res.good, isTy, tyN, noDict, itD, scAt, owA, fixR, isL, isS, seqOf, truth, truOk, okF, nt, unp, unpL, dkAt, lookR, lookRs, okR, isScal, dicAt, dicOf, fixRs, keyT, List.getElem?_cons_zero, List.getElem?_cons_succ, List.set_cons_zero, List.set_cons_succ, List.replicate_zero, List.replicate_succ, List.cons_append, List.nil_append, List.append_nil, Option.some.injEq, Prod.mk.injEq, PyData.int.injEq, PyData.list.injEq, PyData.str.injEq, PyData.bool.injEq, PyData.tuple.injEq, Res.loc.injEq, Res.fz.injEq, Res.ow.injEq, and_true, true_and, List.length_cons, List.length_nil, if_true, if_false, reduceIte, Bool.false_eq_true, Option.map_some, List.cons.injEq, List.mem_cons, List.not_mem_nil, or_false, forall_eq, forall_eq_or_imp, not_true_eq_false, not_false_eq_true, Bool.not_true, Bool.not_false, forall_const, List.nodup_nil, List.nodup_cons, Option.isSome_some, Option.isSome_none, Option.map_none, Option.bind_some, Option.bind_none, decide_eq_true_eq, Nat.reduceLeDiff, Nat.reduceAdd, Nat.zero_add, exists_eq', Int.reduceLT, Int.reduceLE, Int.reduceNeg, Int.reducePow, Nat.reducePow, Int.reduceToNat, Int.reduceAdd, Int.reduceMul, Nat.reduceMul, Nat.reduceEqDiff, Nat.reduceSub, String.reduceBEq, beq_self_eq_true, Bool.and_true, Bool.true_and, Bool.or_true, Bool.true_or, Bool.or_false, Bool.false_or, Bool.and_false, Bool.false_and, Bool.not_eq_true, Bool.not_eq_false, reduceCtorEq])
  | `(tactic| push_cast) => `(tactic| simp -dsimp -implicitDefEqProofs only [↓w2_eq, ↓wT_eq, ↓wChain_eq, ↓wTru_eq, ↓wAndV_eq, ↓wOrV_eq, ↓wNotV_eq, ↓wNeg_eq, ↓wPart_eq, ↓wSl_eq, ↓wN_eq, ↓wM_eq, ↓wMut_eq, ↓wTup_eq, ↓wLst_eq, ↓wCall_eq, ↓wGTup_eq, ↓wGCons_eq, ↓wGSub_eq, ↓wIsi_eq, ↓wIsi2_eq, ↓wIt_eq, ↓wRng1_eq, ↓wRng2_eq, ↓wLenSc_eq, ↓wIxSc_eq, ↓wPar_eq, ↓asgn_eq, ↓asgn_fz, ↓asgn_ow, ↓asgn_loc, ↓retR_fz, ↓retR_ow, ↓retR_loc, ↓wFor_eq, ↓wLc_eq, ↓wVar_eq, ↓wC_eq, ↓wNil_eq, ↓wCons_eq, ↓wAndT_eq, ↓wOrT_eq, ↓wNotT_eq, ↓wIfE_eq, ↓wNoPart_eq, ↓wYes_eq, ↓wNext_eq, ↓wBreak_eq, ↓wCont_eq, ↓wSeq_eq, ↓wDrop_eq, ↓wRet_eq, ↓wRetN_eq, ↓wIf_eq, ↓wAsg_eq, ↓wGNil_eq, ↓gOfB_eq, ↓endsF_nx, ↓endsF_rt, ↓bnd_some, ↓bnd_none, ↓ind_int, ↓tst_bool, ↓tsto_bool, ↓locR_loc, ↓tupR_tup, ↓cns_cons, ↓two_two, ↓ints1_int, ↓ints2_int, ↓g1_eq, ↓g2_eq, ↓gEq_eq, ↓gNe_eq, ↓gRepr_eq, ↓gIn_one, ↓gIs_bb, ↓gIs_none, ↓gIn_list, ↓gIn_tuple, ↓gSl_list, ↓gSl_tuple, ↓gSl_str, ↓gIx_list, ↓gIx_tuple, ↓gIx_str, ↓gSetL_eq, ↓gSum_eq, ↓gBools_eq, ↓gJoin_eq, ↓gAdd.eq_1, ↓gAdd.eq_2, ↓gAdd.eq_3, ↓gAdd.eq_4, ↓PL.gSub.eq_1, ↓gMod.eq_1, ↓gDiv.eq_1, ↓gPow.eq_1, ↓gMul.eq_1, ↓gMul.eq_2, ↓gMul.eq_3, ↓gCmp.eq_1, ↓gCmp.eq_2, ↓gLen.eq_1, ↓gLen.eq_2, ↓gLen.eq_3, ↓gAbs.eq_1, ↓gInt.eq_1, ↓gInt.eq_2, ↓gI2.eq_1, ↓gTup1.eq_1, ↓gTup1.eq_2, ↓gLst1.eq_1, ↓gLst1.eq_2, ↓gAppend.eq_1, ↓gCount.eq_1, ↓gUpper.eq_1, ↓wGet1_eq, ↓wGet2_eq, ↓wNewK_eq, ↓wNewT_eq, ↓wTupO_eq, ↓wCallR_eq, ↓wParN_eq, ↓wPar3_eq, ↓wGTupL_eq, ↓wDisp1_eq, ↓wForK_eq, ↓gPopAt_0, ↓gStr_l, ↓gStr_t, ↓gLenA_l, ↓gLenA_t, ↓gLenA_s, ↓gLenA_d, ↓gMulT_eq, ↓gLtP_t, ↓gLtP_i, ↓gLtP_s, ↓asgnAll_nil, ↓asgnAll_cons, ↓wGSubT_eq, ↓wZip_eq, ↓gIxA_list, ↓gIxA_tuple, ↓gIxA_str, ↓gIxA_dict, ↓gInA_list, ↓gInA_tuple, ↓gInA_str, ↓gInA_dict, ↓gSetD_dict, ↓gDict1_tuple, ↓gDict1_list, ↓gReverse_list, ↓gExtend_list, ↓gLst2_list, ↓gLst2_tuple, ↓gLst2_dict, ↓gLst3_str, ↓gLst3_list, ↓gLst3_tuple, ↓gLst3_dict, ↓wRngDn_eq, ↓ints3_eq, ↓fzd_fz, ↓dcO_dict, ↓wIc_eq, ↓wItB_eq, ↓lstO_list, isK, fzO_list, fzO_dict, fzO_ts, fzO_ti, fzO_tl, eqv_int, eqv_str, eqv_bool, eqv_ns, eqv_sn, eqv_nn, eqv_ni, eqv_in, eqv_si, eqv_is, eqOk_int, eqOk_str, eqOk_bool, eqOk_ns, eqOk_sn, eqOk_nn, eqOk_ni, eqOk_in, eqOk_si, eqOk_is, beq_iff_eq, ixN_0, ixN_1, ixN_2, ixN_3, ixN_4, ixN_5, ixN_6, ixN_7, atI_0, atI_1, atI_2, atI_3, atI_4, atI_5, atI_6, atI_7, rVar, lookAll, ownAt?, look, frz, frzAll, Out.res, okSlot_eq, okO_some, okS_fz, okS_ow, okS_sc, okS_none, wipeE, restE, prep, back, lent, lentOk, outsOf, outsFrom, argE, Res.good, isTy, tyN, noDict, itD, scAt, owA, fixR, isL, isS, seqOf, truth, truOk, okF, nt, unp, unpL, dkAt, lookR, lookRs, okR, isScal, dicAt, dicOf, fixRs, keyT, List.getElem?_cons_zero, List.getElem?_cons_succ, List.set_cons_zero, List.set_cons_succ, List.replicate_zero, List.replicate_succ, List.cons_append, List.nil_append, List.append_nil, Option.some.injEq, Prod.mk.injEq, PyData.int.injEq, PyData.list.injEq, PyData.str.injEq, PyData.bool.injEq, PyData.tuple.injEq, Res.loc.injEq, Res.fz.injEq, Res.ow.injEq, and_true, true_and, List.length_cons, List.length_nil, if_true, if_false, reduceIte, Bool.false_eq_true, Option.map_some, List.cons.injEq, List.mem_cons, List.not_mem_nil, or_false, forall_eq, forall_eq_or_imp, not_true_eq_false, not_false_eq_true, Bool.not_true, Bool.not_false, forall_const, List.nodup_nil, List.nodup_cons, Option.isSome_some, Option.isSome_none, Option.map_none, Option.bind_some, Option.bind_none, decide_eq_true_eq, Nat.reduceLeDiff, Nat.reduceAdd, Nat.zero_add, exists_eq', Int.reduceLT, Int.reduceLE, Int.reduceNeg, Int.reducePow, Nat.reducePow, Int.reduceToNat, Int.reduceAdd, Int.reduceMul, Nat.reduceMul, Nat.reduceEqDiff, Nat.reduceSub, String.reduceBEq, beq_self_eq_true, Bool.and_true, Bool.true_and, Bool.or_true, Bool.true_or, Bool.or_false, Bool.false_or, Bool.and_false, Bool.false_and, Bool.not_eq_true, Bool.not_eq_false, reduceCtorEq])
structure PsL (zs : List Str) (ps : List (Str × Str)) : Prop where
  fst : ps.map Prod.fst = zs
  snd : ∀ (i : Nat) (p : Str × Str), ps[i]? = some p → p.2 = PySem.Str.ofString "" ∨ ∃ (j : Nat) (q : Str × Str), j < i ∧ ps[j]? = some q ∧ p.2 = q.1
theorem cutTo {ds : List D} {i : Nat} (h : i ≤ ds.length) : PL.cutD ds none (some (i : Int)) = ds.take i := by
  unfold PL.cutD
  rw [HT.sIx_none, HT.sIx_nat, Nat.min_eq_left h]
  rfl
theorem some_parts_ok {n : Nat} {box : D} {zs : List Str} {Q : Res → List D → Prop} (h : LBox n box) (hn : n ≤ 800000) (hz : ∀ z ∈ zs, NmOk z) (hnd : zs.Nodup) (hl : zs.length ≤ 20) (hQ : ∀ ps box', LBox (n + 2 * zs.length) box' → PsL zs ps → Q (.ow (psD ps)) [box', .none]) : g__law_some_parts [box, .list (zs.map .str)] Q := by
  push_cast [g__law_some_parts, w__law_some_parts, w__law_some_parts_0, w__law_some_parts_1, wEnum]
  refine ⟨_, _, ⟨rfl, rfl⟩, ?_⟩
  refine forLT_inv (fun i e => ∃ (b : D) (ps : List (Str × Str)) (x3 x4 : Slot), e = [some (.io, b), some (.fz, .list (zs.map .str)), some (.ow, psD ps), x3, x4] ∧ okS x3 = true ∧ okS x4 = true ∧ LBox (n + 2 * i) b ∧ PsL (zs.take i) ps) ⟨box, [], none, none, rfl, rfl, rfl, h, ⟨rfl, fun i p h => by simp at h⟩⟩ (fun i d e K hd hi hk => ?_) (fun e hi => ?_)
  · obtain ⟨b, ps, x3, x4, rfl, o3, o4, hb, hp⟩ := hi
    obtain ⟨z, hc, rfl⟩ : ∃ z, zs[i]? = some z ∧ d = .ow (.tuple [.int i, .str z]) := by
      obtain ⟨x, hx, rfl⟩ := enumR_get hd
      rw [List.getElem?_map, Option.map_eq_some_iff] at hx
      obtain ⟨z, hx, rfl⟩ := hx
      exact ⟨z, hx, rfl⟩
    have hlt := (List.getElem?_eq_some_iff.mp hc).1
    have ht : zs.take (i + 1) = zs.take i ++ [z] := by rw [List.take_succ, hc]; rfl
    have hcut : PyData.str (PySem.Str.ofString "") :: PL.cutD (zs.map PyData.str) none (some (i : Int)) = (PySem.Str.ofString "" :: zs.take i).map PyData.str := by
      rw [cutTo (by rw [List.length_map]; omega), List.map_cons, List.map_take]
    have hpl : ps.length = i := by
      have := congrArg List.length hp.fst
      rw [List.length_map, List.length_take] at this
      omega
    have hzp : z ∉ ps.map Prod.fst := by
      rw [hp.fst]
      intro hm
      obtain ⟨j, hj⟩ := List.getElem?_of_mem hm
      rw [List.getElem?_take] at hj
      split at hj
      · rename_i hji
        obtain ⟨h1, e1⟩ := List.getElem?_eq_some_iff.mp hj
        obtain ⟨h2, e2⟩ := List.getElem?_eq_some_iff.mp hc
        have := List.pairwise_iff_getElem.mp hnd j i h1 h2 hji
        exact this (e1.trans e2.symm)
      · cases hj
    have hput : ∀ y : Str, putD (ps.map fun p => (PyData.str p.1, PyData.str p.2)) (.str z) (.str y) = (ps ++ [(z, y)]).map fun p => (PyData.str p.1, PyData.str p.2) := fun y => by
      rw [putD_new (fun p : Str × Str => p.1) (fun p => PyData.str p.2) z _ ps (fun p hp e => hzp (List.mem_map.mpr ⟨p, hp, e⟩)), List.map_append]; rfl
    have hps : ∀ y : Str, y ∈ PySem.Str.ofString "" :: zs.take i → PsL (zs.take (i + 1)) (ps ++ [(z, y)]) := fun y hy => by
      refine ⟨by rw [List.map_append, hp.fst, ht]; rfl, fun j p hj => ?_⟩
      rw [List.getElem?_append] at hj
      split at hj
      · rename_i hji
        rcases hp.snd j p hj with h | ⟨j2, q, h1, h2, h3⟩
        · exact .inl h
        · exact .inr ⟨j2, q, h1, by rw [List.getElem?_append_left (by omega)]; exact h2, h3⟩
      · rename_i hji
        have hj0 : j - ps.length = 0 := by
          have := (List.getElem?_eq_some_iff.mp hj).1
          simp at this; omega
        rw [hj0] at hj
        cases hj
        rcases List.mem_cons.mp hy with hy | hy
        · exact .inl hy
        · right
          rw [← hp.fst] at hy
          obtain ⟨q, hq, e⟩ := List.mem_map.mp hy
          obtain ⟨j2, hj2⟩ := List.getElem?_of_mem hq
          have := (List.getElem?_eq_some_iff.mp hj2).1
          exact ⟨j2, q, by omega, by rw [List.getElem?_append_left this]; exact hj2, e.symm⟩
    have hko := keyOk_map (fun p : Str × Str => p.1) (fun p => PyData.str p.2) z ps
    have htd := isTd_map (fun p : Str × Str => p.1) (fun p => PyData.str p.2) ps
    push_cast [o3, o4, b__law_some_parts_1, psD]
    refine ⟨by have := cutD_len (zs.map PyData.str) none (some (i : Int)); rw [List.length_map] at this; omega, ?_⟩
    refine callT_of (pick_ok hb (by omega) (by decide) (by decide) fun r1 b1 hb1 r10 r11 _ _ => ?_)
    push_cast
    split
    · refine callT_of (pick_ok hb1 (by omega) (by omega) (by omega) fun r2 b2 hb2 r20 r21 _ _ => ?_)
      push_cast [hcut]
      refine bnd_pickS (zs := PySem.Str.ofString "" :: zs.take i) r20 (by rw [List.length_cons, List.length_take]; omega) fun y hy _ => ?_
      push_cast [hput]
      exact ⟨htd, by rw [List.length_map]; omega, hk _ ⟨b2, ps ++ [(z, y)], _, _, rfl, rfl, rfl, hb2.mono (by omega), hps y hy⟩⟩
    · have e0 := hput (PySem.Str.ofString "")
      rw [e0]
      exact ⟨htd, by rw [List.length_map]; omega, hk _ ⟨b1, ps ++ [(z, PySem.Str.ofString "")], _, _, rfl, rfl, rfl, hb1.mono (by omega), hps _ (by simp)⟩⟩
  · obtain ⟨b, ps, x3, x4, rfl, o3, o4, hb, hp⟩ := hi
    push_cast [w__law_some_parts_2]
    have hlen : (enumR (zs.map PyData.str)).length = zs.length := by simp [enumR]
    rw [hlen] at hb hp
    rw [List.take_length] at hp
    exact hQ ps b hb hp
end K14
set_option Elab.async false
set_option linter.all false
set_option autoImplicit false
set_option maxRecDepth 100000
set_option maxHeartbeats 4000000
namespace K14
open PySem PySem.Spec PyProof.Rows L2 PL
local macro_rules
  | `(tactic| push_cast [$xs,*]) => `(tactic| simp -dsimp -implicitDefEqProofs only [$xs,*, ↓w2_eq, ↓wT_eq, ↓wChain_eq, ↓wTru_eq, ↓wAndV_eq, ↓wOrV_eq, ↓wNotV_eq, ↓wNeg_eq, ↓wPart_eq, ↓wSl_eq, ↓wN_eq, ↓wM_eq, ↓wMut_eq, ↓wTup_eq, ↓wLst_eq, ↓wCall_eq, ↓wGTup_eq, ↓wGCons_eq, ↓wGSub_eq, ↓wIsi_eq, ↓wIsi2_eq, ↓wIt_eq, ↓wRng1_eq, ↓wRng2_eq, ↓wLenSc_eq, ↓wIxSc_eq, ↓wPar_eq, ↓asgn_eq, ↓asgn_fz, ↓asgn_ow, ↓asgn_loc, ↓retR_fz, ↓retR_ow, ↓retR_loc, ↓wFor_eq, ↓wLc_eq, ↓wVar_eq, ↓wC_eq, ↓wNil_eq, ↓wCons_eq, ↓wAndT_eq, ↓wOrT_eq, ↓wNotT_eq, ↓wIfE_eq, ↓wNoPart_eq, ↓wYes_eq, ↓wNext_eq, ↓wBreak_eq, ↓wCont_eq, ↓wSeq_eq, ↓wDrop_eq, ↓wRet_eq, ↓wRetN_eq, ↓wIf_eq, ↓wAsg_eq, ↓wGNil_eq, ↓gOfB_eq, ↓endsF_nx, ↓endsF_rt, ↓bnd_some, ↓bnd_none, ↓ind_int, ↓tst_bool, ↓tsto_bool, ↓locR_loc, ↓tupR_tup, ↓cns_cons, ↓two_two, ↓ints1_int, ↓ints2_int, ↓g1_eq, ↓g2_eq, ↓gEq_eq, ↓gNe_eq, ↓gRepr_eq, ↓gIn_one, ↓gIs_bb, ↓gIs_none, ↓gIn_list, ↓gIn_tuple, ↓gSl_list, ↓gSl_tuple, ↓gSl_str, ↓gIx_list, ↓gIx_tuple, ↓gIx_str, ↓gSetL_eq, ↓gSum_eq, ↓gBools_eq, ↓gJoin_eq, ↓gAdd.eq_1, ↓gAdd.eq_2, ↓gAdd.eq_3, ↓gAdd.eq_4, ↓PL.gSub.eq_1, ↓gMod.eq_1, ↓gDiv.eq_1, ↓gPow.eq_1, ↓gMul.eq_1, ↓gMul.eq_2, ↓gMul.eq_3, ↓gCmp.eq_1, ↓gCmp.eq_2, ↓gLen.eq_1, ↓gLen.eq_2, ↓gLen.eq_3, ↓gAbs.eq_1, ↓gInt.eq_1, ↓gInt.eq_2, ↓gI2.eq_1, ↓gTup1.eq_1, ↓gTup1.eq_2, ↓gLst1.eq_1, ↓gLst1.eq_2, ↓gAppend.eq_1, ↓gCount.eq_1, ↓gUpper.eq_1, ↓wGet1_eq, ↓wGet2_eq, ↓wNewK_eq, ↓wNewT_eq, ↓wTupO_eq, ↓wCallR_eq, ↓wParN_eq, ↓wPar3_eq, ↓wGTupL_eq, ↓wDisp1_eq, ↓wForK_eq, ↓gPopAt_0, ↓gStr_l, ↓gStr_t, ↓gLenA_l, ↓gLenA_t, ↓gLenA_s, ↓gLenA_d, ↓gMulT_eq, ↓gLtP_t, ↓gLtP_i, ↓gLtP_s, ↓asgnAll_nil, ↓asgnAll_cons, ↓wGSubT_eq, ↓wZip_eq, ↓gIxA_list, ↓gIxA_tuple, ↓gIxA_str, ↓gIxA_dict, ↓gInA_list, ↓gInA_tuple, ↓gInA_str, ↓gInA_dict, ↓gSetD_dict, ↓gDict1_tuple, ↓gDict1_list, ↓gReverse_list, ↓gExtend_list, ↓gLst2_list, ↓gLst2_tuple, ↓gLst2_dict, ↓gLst3_str, ↓gLst3_list, ↓gLst3_tuple, ↓gLst3_dict, ↓wRngDn_eq, ↓ints3_eq, ↓fzd_fz, ↓dcO_dict, ↓wIc_eq, ↓wItB_eq, ↓lstO_list, isK, fzO_list, fzO_dict, fzO_ts, fzO_ti, fzO_tl, eqv_int, eqv_str, eqv_bool, eqv_ns, eqv_sn, eqv_nn, eqv_ni, eqv_in, eqv_si, eqv_is, eqOk_int, eqOk_str, eqOk_bool, eqOk_ns, eqOk_sn, eqOk_nn, eqOk_ni, eqOk_in, eqOk_si, eqOk_is, beq_iff_eq, ixN_0, ixN_1, ixN_2, ixN_3, ixN_4, ixN_5, ixN_6, ixN_7, atI_0, atI_1, atI_2, atI_3, atI_4, atI_5, atI_6, atI_7, rVar, lookAll, ownAt?, look, frz, frzAll, Out.res, okSlot_eq, okO_some, okS_fz, okS_ow, okS_sc, okS_none, wipeE, restE, prep, back, lent, lentOk, outsOf, outsFrom, argE, Res.good, isTy, tyN, noDict, itD, scAt, owA, fixR, isL, isS, seqOf, truth, truOk, okF, nt, unp, unpL, dkAt, lookR, lookRs, okR, isScal, dicAt, dicOf, fixRs, keyT, List.getElem?_cons_zero, List.getElem?_cons_succ, List.set_cons_zero, List.set_cons_succ, List.replicate_zero, List.replicate_succ, List.cons_append, List.nil_append, List.append_nil, Option.some.injEq, Prod.mk.injEq, PyData.int.injEq, PyData.list.injEq, PyData.str.injEq, PyData.bool.injEq, PyData.tuple.injEq, Res.loc.injEq, Res.fz.injEq, Res.ow.injEq, and_true, true_and, List.length_cons, List.length_nil, if_true, if_false, reduceIte, Bool.false_eq_true, Option.map_some, List.cons.injEq, List.mem_cons, List.not_mem_nil, or_false, forall_eq, forall_eq_or_imp, not_true_eq_false, not_false_eq_true, Bool.not_true, Bool.not_false, forall_const, List.nodup_nil, List.nodup_cons, Option.isSome_some, Option.isSome_none, Option.map_none, Option.bind_some, Option.bind_none, decide_eq_true_eq, Nat.reduceLeDiff, Nat.reduceAdd, Nat.zero_add, exists_eq', Int.reduceLT, Int.reduceLE, Int.reduceNeg, Int.reducePow, Nat.reducePow, Int.reduceToNat, Int.reduceAdd, Int.reduceMul, Nat.reduceMul, Nat.reduceEqDiff, Nat.reduceSub, String.reduceBEq, beq_self_eq_true, Bool.and_true, Bool.true_and, Bool.or_true, Bool.true_or, Bool.or_false, Bool.false_or, Bool.and_false, Bool.false_and, Bool.not_eq_true, Bool.not_eq_false, reduceCtorEq])
  | `(tactic| push_cast) => `(tactic| simp -dsimp -implicitDefEqProofs only [↓w2_eq, ↓wT_eq, ↓wChain_eq, ↓wTru_eq, ↓wAndV_eq, ↓wOrV_eq, ↓wNotV_eq, ↓wNeg_eq, ↓wPart_eq, ↓wSl_eq, ↓wN_eq, ↓wM_eq, ↓wMut_eq, ↓wTup_eq, ↓wLst_eq, ↓wCall_eq, ↓wGTup_eq, ↓wGCons_eq, ↓wGSub_eq, ↓wIsi_eq, ↓wIsi2_eq, ↓wIt_eq, ↓wRng1_eq, ↓wRng2_eq, ↓wLenSc_eq, ↓wIxSc_eq, ↓wPar_eq, ↓asgn_eq, ↓asgn_fz, ↓asgn_ow, ↓asgn_loc, ↓retR_fz, ↓retR_ow, ↓retR_loc, ↓wFor_eq, ↓wLc_eq, ↓wVar_eq, ↓wC_eq, ↓wNil_eq, ↓wCons_eq, ↓wAndT_eq, ↓wOrT_eq, ↓wNotT_eq, ↓wIfE_eq, ↓wNoPart_eq, ↓wYes_eq, ↓wNext_eq, ↓wBreak_eq, ↓wCont_eq, ↓wSeq_eq, ↓wDrop_eq, ↓wRet_eq, ↓wRetN_eq, ↓wIf_eq, ↓wAsg_eq, ↓wGNil_eq, ↓gOfB_eq, ↓endsF_nx, ↓endsF_rt, ↓bnd_some, ↓bnd_none, ↓ind_int, ↓tst_bool, ↓tsto_bool, ↓locR_loc, ↓tupR_tup, ↓cns_cons, ↓two_two, ↓ints1_int, ↓ints2_int, ↓g1_eq, ↓g2_eq, ↓gEq_eq, ↓gNe_eq, ↓gRepr_eq, ↓gIn_one, ↓gIs_bb, ↓gIs_none, ↓gIn_list, ↓gIn_tuple, ↓gSl_list, ↓gSl_tuple, ↓gSl_str, ↓gIx_list, ↓gIx_tuple, ↓gIx_str, ↓gSetL_eq, ↓gSum_eq, ↓gBools_eq, ↓gJoin_eq, ↓gAdd.eq_1, ↓gAdd.eq_2, ↓gAdd.eq_3, ↓gAdd.eq_4, ↓PL.gSub.eq_1, ↓gMod.eq_1, ↓gDiv.eq_1, ↓gPow.eq_1, ↓gMul.eq_1, ↓gMul.eq_2, ↓gMul.eq_3, ↓gCmp.eq_1, ↓gCmp.eq_2, ↓gLen.eq_1, ↓gLen.eq_2, ↓gLen.eq_3, ↓gAbs.eq_1, ↓gInt.eq_1, ↓gInt.eq_2, ↓gI2.eq_1, ↓gTup1.eq_1, ↓gTup1.eq_2, ↓gLst1.eq_1, ↓gLst1.eq_2, ↓gAppend.eq_1, ↓gCount.eq_1, ↓gUpper.eq_1, ↓wGet1_eq, ↓wGet2_eq, ↓wNewK_eq, ↓wNewT_eq, ↓wTupO_eq, ↓wCallR_eq, ↓wParN_eq, ↓wPar3_eq, ↓wGTupL_eq, ↓wDisp1_eq, ↓wForK_eq, ↓gPopAt_0, ↓gStr_l, ↓gStr_t, ↓gLenA_l, ↓gLenA_t, ↓gLenA_s, ↓gLenA_d, ↓gMulT_eq, ↓gLtP_t, ↓gLtP_i, ↓gLtP_s, ↓asgnAll_nil, ↓asgnAll_cons, ↓wGSubT_eq, ↓wZip_eq, ↓gIxA_list, ↓gIxA_tuple, ↓gIxA_str, ↓gIxA_dict, ↓gInA_list, ↓gInA_tuple, ↓gInA_str, ↓gInA_dict, ↓gSetD_dict, ↓gDict1_tuple, ↓gDict1_list, ↓gReverse_list, ↓gExtend_list, ↓gLst2_list, ↓gLst2_tuple, ↓gLst2_dict, ↓gLst3_str, ↓gLst3_list, ↓gLst3_tuple, ↓gLst3_dict, ↓wRngDn_eq, ↓ints3_eq, ↓fzd_fz, ↓dcO_dict, ↓wIc_eq, ↓wItB_eq, ↓lstO_list, isK, fzO_list, fzO_dict, fzO_ts, fzO_ti, fzO_tl, eqv_int, eqv_str, eqv_bool, eqv_ns, eqv_sn, eqv_nn, eqv_ni, eqv_in, eqv_si, eqv_is, eqOk_int, eqOk_str, eqOk_bool, eqOk_ns, eqOk_sn, eqOk_nn, eqOk_ni, eqOk_in, eqOk_si, eqOk_is, beq_iff_eq, ixN_0, ixN_1, ixN_2, ixN_3, ixN_4, ixN_5, ixN_6, ixN_7, atI_0, atI_1, atI_2, atI_3, atI_4, atI_5, atI_6, atI_7, rVar, lookAll, ownAt?, look, frz, frzAll, Out.res, okSlot_eq, okO_some, okS_fz, okS_ow, okS_sc, okS_none, wipeE, restE, prep, back, lent, lentOk, outsOf, outsFrom, argE, Res.good, isTy, tyN, noDict, itD, scAt, owA, fixR, isL, isS, seqOf, truth, truOk, okF, nt, unp, unpL, dkAt, lookR, lookRs, okR, isScal, dicAt, dicOf, fixRs, keyT, List.getElem?_cons_zero, List.getElem?_cons_succ, List.set_cons_zero, List.set_cons_succ, List.replicate_zero, List.replicate_succ, List.cons_append, List.nil_append, List.append_nil, Option.some.injEq, Prod.mk.injEq, PyData.int.injEq, PyData.list.injEq, PyData.str.injEq, PyData.bool.injEq, PyData.tuple.injEq, Res.loc.injEq, Res.fz.injEq, Res.ow.injEq, and_true, true_and, List.length_cons, List.length_nil, if_true, if_false, reduceIte, Bool.false_eq_true, Option.map_some, List.cons.injEq, List.mem_cons, List.not_mem_nil, or_false, forall_eq, forall_eq_or_imp, not_true_eq_false, not_false_eq_true, Bool.not_true, Bool.not_false, forall_const, List.nodup_nil, List.nodup_cons, Option.isSome_some, Option.isSome_none, Option.map_none, Option.bind_some, Option.bind_none, decide_eq_true_eq, Nat.reduceLeDiff, Nat.reduceAdd, Nat.zero_add, exists_eq', Int.reduceLT, Int.reduceLE, Int.reduceNeg, Int.reducePow, Nat.reducePow, Int.reduceToNat, Int.reduceAdd, Int.reduceMul, Nat.reduceMul, Nat.reduceEqDiff, Nat.reduceSub, String.reduceBEq, beq_self_eq_true, Bool.and_true, Bool.true_and, Bool.or_true, Bool.true_or, Bool.or_false, Bool.false_or, Bool.and_false, Bool.false_and, Bool.not_eq_true, Bool.not_eq_false, reduceCtorEq])
theorem same_ok : ∀ (n : Nat) (d : D) (Q : Res → List D → Prop), Lay n 90000 d → (∀ o, Q (.fz (.bool true)) o) → g__law_same (n + 1) [d, d] Q := by
  intro n
  induction n with
  | zero =>
    intro d Q hl hQ
    show gOfB _ _ _ _ _
    cases d with
    | none =>
      push_cast [w__law_same, w__law_same_0, w__law_same_1]
      exact hQ _
    | bool b =>
      push_cast [w__law_same, w__law_same_0, w__law_same_1, w__law_same_2]
      exact hQ _
    | int b =>
      push_cast [w__law_same, w__law_same_0, w__law_same_1, w__law_same_2, w__law_same_3]
      exact hQ _
    | str b =>
      push_cast [w__law_same, w__law_same_0, w__law_same_1]
      exact hQ _
    | dict b => exact absurd hl.c (by simp [PyData.canLay0])
    | list ds => exact absurd hl.dp (by rw [PyData.depth]; omega)
    | tuple ds => exact absurd hl.dp (by rw [PyData.depth]; omega)
  | succ n ih =>
    intro d Q hl hQ
    show gOfB _ _ _ _ _
    cases d with
    | none =>
      push_cast [w__law_same, w__law_same_0, w__law_same_1]
      exact hQ _
    | bool b =>
      push_cast [w__law_same, w__law_same_0, w__law_same_1, w__law_same_2]
      exact hQ _
    | int b =>
      push_cast [w__law_same, w__law_same_0, w__law_same_1, w__law_same_2, w__law_same_3]
      exact hQ _
    | str b =>
      push_cast [w__law_same, w__law_same_0, w__law_same_1]
      exact hQ _
    | dict b => exact absurd hl.c (by simp [PyData.canLay0])
    | list ds =>
      have hA := hl.ofList
      have hlen := hA.len
      push_cast [w__law_same, w__law_same_0, sameSeq_l]
      refine ⟨by rw [zipRR_len]; omega, ?_⟩
      refine lcLT_inv (hs := fun _ _ _ _ => True.intro) (fun i acc e => acc = (List.replicate i true).map PyData.bool ∧ e = [some (.fz, .list ds), some (.fz, .list ds), none, none]) ⟨rfl, rfl⟩ (fun i d' acc e K hd hi hk => ?_) (fun acc e hi => ?_)
      · obtain ⟨rfl, rfl⟩ := hi
        obtain ⟨x, hx, rfl⟩ := zipRR_get hd
        push_cast
        refine ih x _ (hA.mem hx) fun o h1 h2 => ?_
        push_cast
        refine hk _ _ ⟨?_, rfl⟩
        rw [List.replicate_succ', List.map_append]; rfl
      · obtain ⟨rfl, rfl⟩ := hi
        have ha : ((List.replicate (zipR ds ds).length true).all id) = true := by simp
        push_cast [PL.bools_map, ha]
        exact hQ _
    | tuple ds =>
      have hA := hl.ofTuple
      have hlen := hA.len
      push_cast [w__law_same, w__law_same_0, sameSeq_t]
      refine ⟨by rw [zipRR_len]; omega, ?_⟩
      refine lcLT_inv (hs := fun _ _ _ _ => True.intro) (fun i acc e => acc = (List.replicate i true).map PyData.bool ∧ e = [some (.fz, .tuple ds), some (.fz, .tuple ds), none, none]) ⟨rfl, rfl⟩ (fun i d' acc e K hd hi hk => ?_) (fun acc e hi => ?_)
      · obtain ⟨rfl, rfl⟩ := hi
        obtain ⟨x, hx, rfl⟩ := zipRR_get hd
        push_cast
        refine ih x _ (hA.mem hx) fun o h1 h2 => ?_
        push_cast
        refine hk _ _ ⟨?_, rfl⟩
        rw [List.replicate_succ', List.map_append]; rfl
      · obtain ⟨rfl, rfl⟩ := hi
        have ha : ((List.replicate (zipR ds ds).length true).all id) = true := by simp
        push_cast [PL.bools_map, ha]
        exact hQ _
end K14
set_option Elab.async false
set_option linter.all false
set_option autoImplicit false
set_option maxRecDepth 100000
set_option maxHeartbeats 4000000
namespace K14
open PySem PySem.Spec PyProof.Rows L2 PL
local macro_rules
  | `(tactic| push_cast [$xs,*]) => `(tactic| simp -dsimp -implicitDefEqProofs only [$xs,*, ↓w2_eq, ↓wT_eq, ↓wChain_eq, ↓wTru_eq, ↓wAndV_eq, ↓wOrV_eq, ↓wNotV_eq, ↓wNeg_eq, ↓wPart_eq, ↓wSl_eq, ↓wN_eq, ↓wM_eq, ↓wMut_eq, ↓wTup_eq, ↓wLst_eq, ↓wCall_eq, ↓wGTup_eq, ↓wGCons_eq, ↓wGSub_eq, ↓wIsi_eq, ↓wIsi2_eq, ↓wIt_eq, ↓wRng1_eq, ↓wRng2_eq, ↓wLenSc_eq, ↓wIxSc_eq, ↓wPar_eq, ↓asgn_eq, ↓asgn_fz, ↓asgn_ow, ↓asgn_loc, ↓retR_fz, ↓retR_ow, ↓retR_loc, ↓wFor_eq, ↓wLc_eq, ↓wVar_eq, ↓wC_eq, ↓wNil_eq, ↓wCons_eq, ↓wAndT_eq, ↓wOrT_eq, ↓wNotT_eq, ↓wIfE_eq, ↓wNoPart_eq, ↓wYes_eq, ↓wNext_eq, ↓wBreak_eq, ↓wCont_eq, ↓wSeq_eq, ↓wDrop_eq, ↓wRet_eq, ↓wRetN_eq, ↓wIf_eq, ↓wAsg_eq, ↓wGNil_eq, ↓gOfB_eq, ↓endsF_nx, ↓endsF_rt, ↓bnd_some, ↓bnd_none, ↓ind_int, ↓tst_bool, ↓tsto_bool, ↓locR_loc, ↓tupR_tup, ↓cns_cons, ↓two_two, ↓ints1_int, ↓ints2_int, ↓g1_eq, ↓g2_eq, ↓gEq_eq, ↓gNe_eq, ↓gRepr_eq, ↓gIn_one, ↓gIs_bb, ↓gIs_none, ↓gIn_list, ↓gIn_tuple, ↓gSl_list, ↓gSl_tuple, ↓gSl_str, ↓gIx_list, ↓gIx_tuple, ↓gIx_str, ↓gSetL_eq, ↓gSum_eq, ↓gBools_eq, ↓gJoin_eq, ↓gAdd.eq_1, ↓gAdd.eq_2, ↓gAdd.eq_3, ↓gAdd.eq_4, ↓PL.gSub.eq_1, ↓gMod.eq_1, ↓gDiv.eq_1, ↓gPow.eq_1, ↓gMul.eq_1, ↓gMul.eq_2, ↓gMul.eq_3, ↓gCmp.eq_1, ↓gCmp.eq_2, ↓gLen.eq_1, ↓gLen.eq_2, ↓gLen.eq_3, ↓gAbs.eq_1, ↓gInt.eq_1, ↓gInt.eq_2, ↓gI2.eq_1, ↓gTup1.eq_1, ↓gTup1.eq_2, ↓gLst1.eq_1, ↓gLst1.eq_2, ↓gAppend.eq_1, ↓gCount.eq_1, ↓gUpper.eq_1, ↓wGet1_eq, ↓wGet2_eq, ↓wNewK_eq, ↓wNewT_eq, ↓wTupO_eq, ↓wCallR_eq, ↓wParN_eq, ↓wPar3_eq, ↓wGTupL_eq, ↓wDisp1_eq, ↓wForK_eq, ↓gPopAt_0, ↓gStr_l, ↓gStr_t, ↓gLenA_l, ↓gLenA_t, ↓gLenA_s, ↓gLenA_d, ↓gMulT_eq, ↓gLtP_t, ↓gLtP_i, ↓gLtP_s, ↓asgnAll_nil, ↓asgnAll_cons, ↓wGSubT_eq, ↓wZip_eq, ↓gIxA_list, ↓gIxA_tuple, ↓gIxA_str, ↓gIxA_dict, ↓gInA_list, ↓gInA_tuple, ↓gInA_str, ↓gInA_dict, ↓gSetD_dict, ↓gDict1_tuple, ↓gDict1_list, ↓gReverse_list, ↓gExtend_list, ↓gLst2_list, ↓gLst2_tuple, ↓gLst2_dict, ↓gLst3_str, ↓gLst3_list, ↓gLst3_tuple, ↓gLst3_dict, ↓wRngDn_eq, ↓ints3_eq, ↓fzd_fz, ↓dcO_dict, ↓wIc_eq, ↓wItB_eq, ↓lstO_list, isK, fzO_list, fzO_dict, fzO_ts, fzO_ti, fzO_tl, eqv_int, eqv_str, eqv_bool, eqv_ns, eqv_sn, eqv_nn, eqv_ni, eqv_in, eqv_si, eqv_is, eqOk_int, eqOk_str, eqOk_bool, eqOk_ns, eqOk_sn, eqOk_nn, eqOk_ni, eqOk_in, eqOk_si, eqOk_is, beq_iff_eq, ixN_0, ixN_1, ixN_2, ixN_3, ixN_4, ixN_5, ixN_6, ixN_7, atI_0, atI_1, atI_2, atI_3, atI_4, atI_5, atI_6, atI_7, rVar, lookAll, ownAt?, look, frz, frzAll, Out.res, okSlot_eq, okO_some, okS_fz, okS_ow, okS_sc, okS_none, wipeE, restE, prep, back, lent, lentOk, outsOf, outsFrom, argE, Res.good, isTy, tyN, noDict, itD, scAt, owA, fixR, isL, isS, seqOf, truth, truOk, okF, nt, unp, unpL, dkAt, lookR, lookRs, okR, isScal, dicAt, dicOf, fixRs, keyT, List.getElem?_cons_zero, List.getElem?_cons_succ, List.set_cons_zero, List.set_cons_succ, List.replicate_zero, List.replicate_succ, List.cons_append, List.nil_append, List.append_nil, Option.some.injEq, Prod.mk.injEq, PyData.int.injEq, PyData.list.injEq, PyData.str.injEq, PyData.bool.injEq, PyData.tuple.injEq, Res.loc.injEq, Res.fz.injEq, Res.ow.injEq, and_true, true_and, List.length_cons, List.length_nil, if_true, if_false, reduceIte, Bool.false_eq_true, Option.map_some, List.cons.injEq, List.mem_cons, List.not_mem_nil, or_false, forall_eq, forall_eq_or_imp, not_true_eq_false, not_false_eq_true, Bool.not_true, Bool.not_false, forall_const, List.nodup_nil, List.nodup_cons, Option.isSome_some, Option.isSome_none, Option.map_none, Option.bind_some, Option.bind_none, decide_eq_true_eq, Nat.reduceLeDiff, Nat.reduceAdd, Nat.zero_add, exists_eq', Int.reduceLT, Int.reduceLE, Int.reduceNeg, Int.reducePow, Nat.reducePow, Int.reduceToNat, Int.reduceAdd, Int.reduceMul, Nat.reduceMul, Nat.reduceEqDiff, Nat.reduceSub, String.reduceBEq, beq_self_eq_true, Bool.and_true, Bool.true_and, Bool.or_true, Bool.true_or, Bool.or_false, Bool.false_or, Bool.and_false, Bool.false_and, Bool.not_eq_true, Bool.not_eq_false, reduceCtorEq])
  | `(tactic| push_cast) => `(tactic| simp -dsimp -implicitDefEqProofs only [↓w2_eq, ↓wT_eq, ↓wChain_eq, ↓wTru_eq, ↓wAndV_eq, ↓wOrV_eq, ↓wNotV_eq, ↓wNeg_eq, ↓wPart_eq, ↓wSl_eq, ↓wN_eq, ↓wM_eq, ↓wMut_eq, ↓wTup_eq, ↓wLst_eq, ↓wCall_eq, ↓wGTup_eq, ↓wGCons_eq, ↓wGSub_eq, ↓wIsi_eq, ↓wIsi2_eq, ↓wIt_eq, ↓wRng1_eq, ↓wRng2_eq, ↓wLenSc_eq, ↓wIxSc_eq, ↓wPar_eq, ↓asgn_eq, ↓asgn_fz, ↓asgn_ow, ↓asgn_loc, ↓retR_fz, ↓retR_ow, ↓retR_loc, ↓wFor_eq, ↓wLc_eq, ↓wVar_eq, ↓wC_eq, ↓wNil_eq, ↓wCons_eq, ↓wAndT_eq, ↓wOrT_eq, ↓wNotT_eq, ↓wIfE_eq, ↓wNoPart_eq, ↓wYes_eq, ↓wNext_eq, ↓wBreak_eq, ↓wCont_eq, ↓wSeq_eq, ↓wDrop_eq, ↓wRet_eq, ↓wRetN_eq, ↓wIf_eq, ↓wAsg_eq, ↓wGNil_eq, ↓gOfB_eq, ↓endsF_nx, ↓endsF_rt, ↓bnd_some, ↓bnd_none, ↓ind_int, ↓tst_bool, ↓tsto_bool, ↓locR_loc, ↓tupR_tup, ↓cns_cons, ↓two_two, ↓ints1_int, ↓ints2_int, ↓g1_eq, ↓g2_eq, ↓gEq_eq, ↓gNe_eq, ↓gRepr_eq, ↓gIn_one, ↓gIs_bb, ↓gIs_none, ↓gIn_list, ↓gIn_tuple, ↓gSl_list, ↓gSl_tuple, ↓gSl_str, ↓gIx_list, ↓gIx_tuple, ↓gIx_str, ↓gSetL_eq, ↓gSum_eq, ↓gBools_eq, ↓gJoin_eq, ↓gAdd.eq_1, ↓gAdd.eq_2, ↓gAdd.eq_3, ↓gAdd.eq_4, ↓PL.gSub.eq_1, ↓gMod.eq_1, ↓gDiv.eq_1, ↓gPow.eq_1, ↓gMul.eq_1, ↓gMul.eq_2, ↓gMul.eq_3, ↓gCmp.eq_1, ↓gCmp.eq_2, ↓gLen.eq_1, ↓gLen.eq_2, ↓gLen.eq_3, ↓gAbs.eq_1, ↓gInt.eq_1, ↓gInt.eq_2, ↓gI2.eq_1, ↓gTup1.eq_1, ↓gTup1.eq_2, ↓gLst1.eq_1, ↓gLst1.eq_2, ↓gAppend.eq_1, ↓gCount.eq_1, ↓gUpper.eq_1, ↓wGet1_eq, ↓wGet2_eq, ↓wNewK_eq, ↓wNewT_eq, ↓wTupO_eq, ↓wCallR_eq, ↓wParN_eq, ↓wPar3_eq, ↓wGTupL_eq, ↓wDisp1_eq, ↓wForK_eq, ↓gPopAt_0, ↓gStr_l, ↓gStr_t, ↓gLenA_l, ↓gLenA_t, ↓gLenA_s, ↓gLenA_d, ↓gMulT_eq, ↓gLtP_t, ↓gLtP_i, ↓gLtP_s, ↓asgnAll_nil, ↓asgnAll_cons, ↓wGSubT_eq, ↓wZip_eq, ↓gIxA_list, ↓gIxA_tuple, ↓gIxA_str, ↓gIxA_dict, ↓gInA_list, ↓gInA_tuple, ↓gInA_str, ↓gInA_dict, ↓gSetD_dict, ↓gDict1_tuple, ↓gDict1_list, ↓gReverse_list, ↓gExtend_list, ↓gLst2_list, ↓gLst2_tuple, ↓gLst2_dict, ↓gLst3_str, ↓gLst3_list, ↓gLst3_tuple, ↓gLst3_dict, ↓wRngDn_eq, ↓ints3_eq, ↓fzd_fz, ↓dcO_dict, ↓wIc_eq, ↓wItB_eq, ↓lstO_list, isK, fzO_list, fzO_dict, fzO_ts, fzO_ti, fzO_tl, eqv_int, eqv_str, eqv_bool, eqv_ns, eqv_sn, eqv_nn, eqv_ni, eqv_in, eqv_si, eqv_is, eqOk_int, eqOk_str, eqOk_bool, eqOk_ns, eqOk_sn, eqOk_nn, eqOk_ni, eqOk_in, eqOk_si, eqOk_is, beq_iff_eq, ixN_0, ixN_1, ixN_2, ixN_3, ixN_4, ixN_5, ixN_6, ixN_7, atI_0, atI_1, atI_2, atI_3, atI_4, atI_5, atI_6, atI_7, rVar, lookAll, ownAt?, look, frz, frzAll, Out.res, okSlot_eq, okO_some, okS_fz, okS_ow, okS_sc, okS_none, wipeE, restE, prep, back, lent, lentOk, outsOf, outsFrom, argE, Res.good, isTy, tyN, noDict, itD, scAt, owA, fixR, isL, isS, seqOf, truth, truOk, okF, nt, unp, unpL, dkAt, lookR, lookRs, okR, isScal, dicAt, dicOf, fixRs, keyT, List.getElem?_cons_zero, List.getElem?_cons_succ, List.set_cons_zero, List.set_cons_succ, List.replicate_zero, List.replicate_succ, List.cons_append, List.nil_append, List.append_nil, Option.some.injEq, Prod.mk.injEq, PyData.int.injEq, PyData.list.injEq, PyData.str.injEq, PyData.bool.injEq, PyData.tuple.injEq, Res.loc.injEq, Res.fz.injEq, Res.ow.injEq, and_true, true_and, List.length_cons, List.length_nil, if_true, if_false, reduceIte, Bool.false_eq_true, Option.map_some, List.cons.injEq, List.mem_cons, List.not_mem_nil, or_false, forall_eq, forall_eq_or_imp, not_true_eq_false, not_false_eq_true, Bool.not_true, Bool.not_false, forall_const, List.nodup_nil, List.nodup_cons, Option.isSome_some, Option.isSome_none, Option.map_none, Option.bind_some, Option.bind_none, decide_eq_true_eq, Nat.reduceLeDiff, Nat.reduceAdd, Nat.zero_add, exists_eq', Int.reduceLT, Int.reduceLE, Int.reduceNeg, Int.reducePow, Nat.reducePow, Int.reduceToNat, Int.reduceAdd, Int.reduceMul, Nat.reduceMul, Nat.reduceEqDiff, Nat.reduceSub, String.reduceBEq, beq_self_eq_true, Bool.and_true, Bool.true_and, Bool.or_true, Bool.true_or, Bool.or_false, Bool.false_or, Bool.and_false, Bool.false_and, Bool.not_eq_true, Bool.not_eq_false, reduceCtorEq])
abbrev LET : Str := PySem.Str.ofString "abcdefghijklmnopqrstuvwxyz"
/-- small letters, so many at most -/
structure Lt (n : Nat) (z : Str) : Prop where
  tok : TOk n z
  let_ : ∀ c ∈ z.cps.toList, 97 ≤ c ∧ c < 123
abbrev c1 (c : Nat) : Str := ⟨#[c]⟩
theorem join_c1 (ys : List Nat) : (Txt.join Str.empty (ys.map c1)).cps.toList = ys := by
  rw [join_l, List.map_map]
  have : (List.map ((fun y : Str => y.cps.toList) ∘ c1) ys) = ys.map fun c => [c] := by
    apply List.map_congr_left
    intro c _; rfl
  rw [this]
  clear this
  induction ys with
  | nil => rfl
  | cons y ys ih => rw [List.map_cons, List.flatten_cons, ih]; rfl
theorem join_lt {ys : List Nat} (h : ∀ c ∈ ys, 97 ≤ c ∧ c < 123) : Lt ys.length (Txt.join Str.empty (ys.map c1)) := by
  have hT : ∀ y ∈ ys.map c1, TOk 1 y := by
    intro y hy
    obtain ⟨c, hc, rfl⟩ := List.mem_map.mp hy
    have := h c hc
    exact TOk.one (by omega)
  have h2 := TOk.join hT
  rw [List.length_map] at h2
  exact ⟨h2, by rw [join_c1]; exact h⟩
abbrev eN (b : D) (m : Int) (L : Str) (x3 x5 x6 x7 x8 x9 x10 x11 x12 x13 : Slot) : DEnv :=
  [some (.io, b), some (.fz, .int m), some (.fz, .str L), x3, none, x5, x6, x7, x8, x9, x10, x11, x12, x13]
theorem names_1 {D0 : DEnds} {n : Nat} {b : D} {m : Int} {x3 x5 x6 x7 x8 x9 x10 x11 x12 x13 : Slot} (hb : LBox n b) (hn : n ≤ 900000) (o3 : okS x3 = true)
    (hK : ∀ b' z, LBox (n + 4) b' → Lt 3 z → D0.nx (eN b' m LET (some (.fz, .str z)) x5 x6 x7 x8 x9 x10 x11 x12 x13)) : w__law_some_names_1 D0 (eN b m LET x3 x5 x6 x7 x8 x9 x10 x11 x12 x13) := by
  have hL1 : ∀ c ∈ LET.cps.toList, 97 ≤ c ∧ c < 123 := by decide +kernel
  have hL2 : LET.cps.toList.length = 26 := by decide +kernel
  unfold LET at hL1 hL2 hK ⊢
  generalize PySem.Str.ofString "abcdefghijklmnopqrstuvwxyz" = L at hL1 hL2 hK ⊢
  push_cast [w__law_some_names_1, eN]
  have hem : PySem.Str.ofString "" = PySem.Str.empty := rfl
  refine callT_of (pick_ok hb (by omega) (by decide) (by decide) fun r b1 hb1 r0 r1 _ _ => ?_)
  push_cast
  rw [rngD_len]
  refine ⟨by omega, by omega, ?_⟩
  refine lcLT_inv (hs := fun _ _ _ _ => True.intro) (fun i acc e => ∃ ys : List Nat, acc = (ys.map c1).map PyData.str ∧ ys.length = i ∧ (∀ c ∈ ys, c ∈ L.cps.toList) ∧ ∃ b, LBox (n + 1 + i) b ∧ e = eN b m L x3 x5 x6 x7 x8 x9 x10 x11 x12 x13) ⟨[], rfl, rfl, by simp, b1, hb1, rfl⟩ (fun i d' acc e K hd hi hk => ?_) (fun acc e hi => ?_)
  · obtain ⟨ys, rfl, hl, hy, b, hb, rfl⟩ := hi
    obtain ⟨hi, rfl⟩ := rngD_get hd
    push_cast [eN]
    refine callT_of (pick_ok hb (by omega) (by decide) (by decide) fun r3 b3 hb3 r30 r31 _ _ => ?_)
    have ha := atI_lt (xs := L.cps.toList) r30 (by omega)
    push_cast [ha]
    refine ⟨by rw [slen]; omega, hk _ _ ⟨ys ++ [L.cps.toList[r3.toNat]'(by omega)], by simp, by simp [hl], ?_, b3, hb3, rfl⟩⟩
    intro c hc
    rcases List.mem_append.mp hc with q | q
    · exact hy c q
    · rw [List.mem_singleton] at q; subst q; exact List.getElem_mem _
  · obtain ⟨ys, rfl, hl, hy, b, hb, rfl⟩ := hi
    rw [rngD_len] at hl hb
    have hlt := join_lt fun c hc => hL1 c (hy c hc)
    have hT : ∀ y ∈ ys.map c1, TOk 1 y := by
      intro y hy'
      obtain ⟨c, hc, rfl⟩ := List.mem_map.mp hy'
      have := hL1 c (hy c hc)
      exact TOk.one (by omega)
    have h1 := sum_len hT
    rw [List.length_map] at h1
    rw [hem]
    push_cast [eN, PL.strs_map, o3]
    have h0 : Str.empty.length = 0 := rfl
    refine ⟨by rw [h0, List.length_map]; omega, hK _ _ (hb.mono (by omega)) ⟨hlt.tok.mono (by omega), hlt.let_⟩⟩
theorem names_2 {D0 : DEnds} {n : Nat} {b : D} {m : Int} {x3 x5 x6 x7 x8 x9 x10 x11 x12 x13 : Slot} (hb : LBox n b) (hn : n ≤ 900000) (o5 : okS x5 = true)
    (hK : ∀ b' z, LBox (n + 4) b' → Lt 3 z → D0.nx (eN b' m LET x3 (some (.fz, .str z)) x6 x7 x8 x9 x10 x11 x12 x13)) : w__law_some_names_2 D0 (eN b m LET x3 x5 x6 x7 x8 x9 x10 x11 x12 x13) := by
  have hL1 : ∀ c ∈ LET.cps.toList, 97 ≤ c ∧ c < 123 := by decide +kernel
  have hL2 : LET.cps.toList.length = 26 := by decide +kernel
  unfold LET at hL1 hL2 hK ⊢
  generalize PySem.Str.ofString "abcdefghijklmnopqrstuvwxyz" = L at hL1 hL2 hK ⊢
  push_cast [w__law_some_names_2, eN]
  have hem : PySem.Str.ofString "" = PySem.Str.empty := rfl
  refine callT_of (pick_ok hb (by omega) (by decide) (by decide) fun r b1 hb1 r0 r1 _ _ => ?_)
  push_cast
  rw [rngD_len]
  refine ⟨by omega, by omega, ?_⟩
  refine lcLT_inv (hs := fun _ _ _ _ => True.intro) (fun i acc e => ∃ ys : List Nat, acc = (ys.map c1).map PyData.str ∧ ys.length = i ∧ (∀ c ∈ ys, c ∈ L.cps.toList) ∧ ∃ b, LBox (n + 1 + i) b ∧ e = eN b m L x3 x5 x6 x7 x8 x9 x10 x11 x12 x13) ⟨[], rfl, rfl, by simp, b1, hb1, rfl⟩ (fun i d' acc e K hd hi hk => ?_) (fun acc e hi => ?_)
  · obtain ⟨ys, rfl, hl, hy, b, hb, rfl⟩ := hi
    obtain ⟨hi, rfl⟩ := rngD_get hd
    push_cast [eN]
    refine callT_of (pick_ok hb (by omega) (by decide) (by decide) fun r3 b3 hb3 r30 r31 _ _ => ?_)
    have ha := atI_lt (xs := L.cps.toList) r30 (by omega)
    push_cast [ha]
    refine ⟨by rw [slen]; omega, hk _ _ ⟨ys ++ [L.cps.toList[r3.toNat]'(by omega)], by simp, by simp [hl], ?_, b3, hb3, rfl⟩⟩
    intro c hc
    rcases List.mem_append.mp hc with q | q
    · exact hy c q
    · rw [List.mem_singleton] at q; subst q; exact List.getElem_mem _
  · obtain ⟨ys, rfl, hl, hy, b, hb, rfl⟩ := hi
    rw [rngD_len] at hl hb
    have hlt := join_lt fun c hc => hL1 c (hy c hc)
    have hT : ∀ y ∈ ys.map c1, TOk 1 y := by
      intro y hy'
      obtain ⟨c, hc, rfl⟩ := List.mem_map.mp hy'
      have := hL1 c (hy c hc)
      exact TOk.one (by omega)
    have h1 := sum_len hT
    rw [List.length_map] at h1
    rw [hem]
    push_cast [eN, PL.strs_map, o5]
    have h0 : Str.empty.length = 0 := rfl
    refine ⟨by rw [h0, List.length_map]; omega, hK _ _ (hb.mono (by omega)) ⟨hlt.tok.mono (by omega), hlt.let_⟩⟩
theorem names_3 {D0 : DEnds} {n : Nat} {b : D} {m : Int} {L : Str} {x3 x5 x6 x7 x8 x9 x10 x11 x12 x13 : Slot} (hb : LBox n b) (hn : n ≤ 900000) (o6 : okS x6 = true) (o7 : okS x7 = true)
    (hK : ∀ b' first by_, LBox (n + 2) b' → 0 ≤ first → first < 676 → by_ ∈ [(1 : Int), 3, 5, 7, 25, 675] → D0.nx (eN b' m L x3 x5 (some (.fz, .int first)) (some (.fz, .int by_)) x8 x9 x10 x11 x12 x13)) : w__law_some_names_3 D0 (eN b m L x3 x5 x6 x7 x8 x9 x10 x11 x12 x13) := by
  push_cast [w__law_some_names_3, eN]
  refine callT_of (pick_ok hb (by omega) (by decide) (by decide) fun r b1 hb1 r0 r1 _ _ => ?_)
  push_cast
  refine callT_of (pick_ok hb1 (by omega) (by decide) (by decide) fun r2 b2 hb2 r20 r21 _ _ => ?_)
  push_cast
  refine bnd_pick (fun x => ∃ v : Int, x = .int v ∧ v ∈ [(1 : Int), 3, 5, 7, 25, 675]) r20 (by simpa using r21) (fun x hx => ?_) fun x ⟨v, e, hv⟩ => ?_
  · simp only [List.mem_cons, List.not_mem_nil, or_false] at hx
    rcases hx with rfl | rfl | rfl | rfl | rfl | rfl <;> exact ⟨_, rfl, by simp⟩
  · subst e
    push_cast [o6, o7]
    exact hK _ _ _ hb2 r0 r1 hv
/-- what is told of the names -/
structure NamesOk (m : Nat) (zs : List Str) : Prop where
  len : zs.length = m
  nm : ∀ z ∈ zs, NmOk z
  nd : zs.Nodup
theorem nd_map {α β : Type} {f : α → β} : ∀ {xs : List α}, xs.Nodup → (∀ a ∈ xs, ∀ b ∈ xs, f a = f b → a = b) → (xs.map f).Nodup
  | [], _, _ => .nil
  | x :: xs, h, hi => by
    rw [List.map_cons, List.nodup_cons]
    rw [List.nodup_cons] at h
    refine ⟨fun hm => ?_, nd_map h.2 fun a ha b hb => hi a (List.mem_cons_of_mem _ ha) b (List.mem_cons_of_mem _ hb)⟩
    obtain ⟨y, hy, e⟩ := List.mem_map.mp hm
    have := hi y (List.mem_cons_of_mem _ hy) x (by simp) e
    exact h.1 (this ▸ hy)
theorem prime26 : ∀ b ∈ [(1 : Nat), 3, 5, 7, 25, 675], ∀ d < 26, 0 < d → (b * d) % 26 ≠ 0 := by decide +kernel
theorem prime676 : ∀ b ∈ [(1 : Nat), 3, 5, 7, 25, 675], ∀ d < 36, 0 < d → (b * d) % 676 ≠ 0 := by decide +kernel
theorem unlike {M first b : Nat} {n : Nat} (hp : ∀ d < n, 0 < d → (b * d) % M ≠ 0) {i j : Nat} (hi : i < n) (hj : j < n) (h : (first + b * i) % M = (first + b * j) % M) : i = j := by
  have one : ∀ i j : Nat, i < j → j < n → (first + b * i) % M = (first + b * j) % M → False := fun i j hij hj h => by
    refine hp (j - i) (by omega) (by omega) ?_
    have e : first + b * j = (first + b * i) + b * (j - i) := by
      have : b * j = b * i + b * (j - i) := by rw [← Nat.mul_add]; congr 1; omega
      omega
    rw [e] at h
    have h2 : ((first + b * i) + b * (j - i)) % M = (first + b * i) % M := h.symm
    have := (Nat.sub_mod_eq_zero_of_mod_eq h2)
    rwa [Nat.add_sub_cancel_left] at this
  rcases Nat.lt_trichotomy i j with g | g | g
  · exact (one i j g hj h).elim
  · exact g
  · exact (one j i g hi h.symm).elim
theorem let_at : ∀ i < 26, LET.cps.toList[i]? = some (97 + i) := by decide +kernel
end K14
set_option Elab.async false
set_option linter.all false
set_option autoImplicit false
set_option maxRecDepth 100000
set_option maxHeartbeats 4000000
namespace K14
open PySem PySem.Spec PyProof.Rows L2 PL
local macro_rules
  | `(tactic| push_cast [$xs,*]) => `(tactic| simp -dsimp -implicitDefEqProofs only [$xs,*, ↓w2_eq, ↓wT_eq, ↓wChain_eq, ↓wTru_eq, ↓wAndV_eq, ↓wOrV_eq, ↓wNotV_eq, ↓wNeg_eq, ↓wPart_eq, ↓wSl_eq, ↓wN_eq, ↓wM_eq, ↓wMut_eq, ↓wTup_eq, ↓wLst_eq, ↓wCall_eq, ↓wGTup_eq, ↓wGCons_eq, ↓wGSub_eq, ↓wIsi_eq, ↓wIsi2_eq, ↓wIt_eq, ↓wRng1_eq, ↓wRng2_eq, ↓wLenSc_eq, ↓wIxSc_eq, ↓wPar_eq, ↓asgn_eq, ↓asgn_fz, ↓asgn_ow, ↓asgn_loc, ↓retR_fz, ↓retR_ow, ↓retR_loc, ↓wFor_eq, ↓wLc_eq, ↓wVar_eq, ↓wC_eq, ↓wNil_eq, ↓wCons_eq, ↓wAndT_eq, ↓wOrT_eq, ↓wNotT_eq, ↓wIfE_eq, ↓wNoPart_eq, ↓wYes_eq, ↓wNext_eq, ↓wBreak_eq, ↓wCont_eq, ↓wSeq_eq, ↓wDrop_eq, ↓wRet_eq, ↓wRetN_eq, ↓wIf_eq, ↓wAsg_eq, ↓wGNil_eq, ↓gOfB_eq, ↓endsF_nx, ↓endsF_rt, ↓bnd_some, ↓bnd_none, ↓ind_int, ↓tst_bool, ↓tsto_bool, ↓locR_loc, ↓tupR_tup, ↓cns_cons, ↓two_two, ↓ints1_int, ↓ints2_int, ↓g1_eq, ↓g2_eq, ↓gEq_eq, ↓gNe_eq, ↓gRepr_eq, ↓gIn_one, ↓gIs_bb, ↓gIs_none, ↓gIn_list, ↓gIn_tuple, ↓gSl_list, ↓gSl_tuple, ↓gSl_str, ↓gIx_list, ↓gIx_tuple, ↓gIx_str, ↓gSetL_eq, ↓gSum_eq, ↓gBools_eq, ↓gJoin_eq, ↓gAdd.eq_1, ↓gAdd.eq_2, ↓gAdd.eq_3, ↓gAdd.eq_4, ↓PL.gSub.eq_1, ↓gMod.eq_1, ↓gDiv.eq_1, ↓gPow.eq_1, ↓gMul.eq_1, ↓gMul.eq_2, ↓gMul.eq_3, ↓gCmp.eq_1, ↓gCmp.eq_2, ↓gLen.eq_1, ↓gLen.eq_2, ↓gLen.eq_3, ↓gAbs.eq_1, ↓gInt.eq_1, ↓gInt.eq_2, ↓gI2.eq_1, ↓gTup1.eq_1, ↓gTup1.eq_2, ↓gLst1.eq_1, ↓gLst1.eq_2, ↓gAppend.eq_1, ↓gCount.eq_1, ↓gUpper.eq_1, ↓wGet1_eq, ↓wGet2_eq, ↓wNewK_eq, ↓wNewT_eq, ↓wTupO_eq, ↓wCallR_eq, ↓wParN_eq, ↓wPar3_eq, ↓wGTupL_eq, ↓wDisp1_eq, ↓wForK_eq, ↓gPopAt_0, ↓gStr_l, ↓gStr_t, ↓gLenA_l, ↓gLenA_t, ↓gLenA_s, ↓gLenA_d, ↓gMulT_eq, ↓gLtP_t, ↓gLtP_i, ↓gLtP_s, ↓asgnAll_nil, ↓asgnAll_cons, ↓wGSubT_eq, ↓wZip_eq, ↓gIxA_list, ↓gIxA_tuple, ↓gIxA_str, ↓gIxA_dict, ↓gInA_list, ↓gInA_tuple, ↓gInA_str, ↓gInA_dict, ↓gSetD_dict, ↓gDict1_tuple, ↓gDict1_list, ↓gReverse_list, ↓gExtend_list, ↓gLst2_list, ↓gLst2_tuple, ↓gLst2_dict, ↓gLst3_str, ↓gLst3_list, ↓gLst3_tuple, ↓gLst3_dict, ↓wRngDn_eq, ↓ints3_eq, ↓fzd_fz, ↓dcO_dict, ↓wIc_eq, ↓wItB_eq, ↓lstO_list, isK, fzO_list, fzO_dict, fzO_ts, fzO_ti, fzO_tl, eqv_int, eqv_str, eqv_bool, eqv_ns, eqv_sn, eqv_nn, eqv_ni, eqv_in, eqv_si, eqv_is, eqOk_int, eqOk_str, eqOk_bool, eqOk_ns, eqOk_sn, eqOk_nn, eqOk_ni, eqOk_in, eqOk_si, eqOk_is, beq_iff_eq, ixN_0, ixN_1, ixN_2, ixN_3, ixN_4, ixN_5, ixN_6, ixN_7, atI_0, atI_1, atI_2, atI_3, atI_4, atI_5, atI_6, atI_7, rVar, lookAll, ownAt?, look, frz, frzAll, Out.res, okSlot_eq, okO_some, okS_fz, okS_ow, okS_sc, okS_none, wipeE, restE, prep, back, lent, lentOk, outsOf, outsFrom, argE, Res.good, isTy, tyN, noDict, itD, scAt, owA, fixR, isL, isS, seqOf, truth, truOk, okF, nt, unp, unpL, dkAt, lookR, lookRs, okR, isScal, dicAt, dicOf, fixRs, keyT, List.getElem?_cons_zero, List.getElem?_cons_succ, List.set_cons_zero, List.set_cons_succ, List.replicate_zero, List.replicate_succ, List.cons_append, List.nil_append, List.append_nil, Option.some.injEq, Prod.mk.injEq, PyData.int.injEq, PyData.list.injEq, PyData.str.injEq, PyData.bool.injEq, PyData.tuple.injEq, Res.loc.injEq, Res.fz.injEq, Res.ow.injEq, and_true, true_and, List.length_cons, List.length_nil, if_true, if_false, reduceIte, Bool.false_eq_true, Option.map_some, List.cons.injEq, List.mem_cons, List.not_mem_nil, or_false, forall_eq, forall_eq_or_imp, not_true_eq_false, not_false_eq_true, Bool.not_true, Bool.not_false, forall_const, List.nodup_nil, List.nodup_cons, Option.isSome_some, Option.isSome_none, Option.map_none, Option.bind_some, Option.bind_none, decide_eq_true_eq, Nat.reduceLeDiff, Nat.reduceAdd, Nat.zero_add, exists_eq', Int.reduceLT, Int.reduceLE, Int.reduceNeg, Int.reducePow, Nat.reducePow, Int.reduceToNat, Int.reduceAdd, Int.reduceMul, Nat.reduceMul, Nat.reduceEqDiff, Nat.reduceSub, String.reduceBEq, beq_self_eq_true, Bool.and_true, Bool.true_and, Bool.or_true, Bool.true_or, Bool.or_false, Bool.false_or, Bool.and_false, Bool.false_and, Bool.not_eq_true, Bool.not_eq_false, reduceCtorEq])
  | `(tactic| push_cast) => `(tactic| simp -dsimp -implicitDefEqProofs only [↓w2_eq, ↓wT_eq, ↓wChain_eq, ↓wTru_eq, ↓wAndV_eq, ↓wOrV_eq, ↓wNotV_eq, ↓wNeg_eq, ↓wPart_eq, ↓wSl_eq, ↓wN_eq, ↓wM_eq, ↓wMut_eq, ↓wTup_eq, ↓wLst_eq, ↓wCall_eq, ↓wGTup_eq, ↓wGCons_eq, ↓wGSub_eq, ↓wIsi_eq, ↓wIsi2_eq, ↓wIt_eq, ↓wRng1_eq, ↓wRng2_eq, ↓wLenSc_eq, ↓wIxSc_eq, ↓wPar_eq, ↓asgn_eq, ↓asgn_fz, ↓asgn_ow, ↓asgn_loc, ↓retR_fz, ↓retR_ow, ↓retR_loc, ↓wFor_eq, ↓wLc_eq, ↓wVar_eq, ↓wC_eq, ↓wNil_eq, ↓wCons_eq, ↓wAndT_eq, ↓wOrT_eq, ↓wNotT_eq, ↓wIfE_eq, ↓wNoPart_eq, ↓wYes_eq, ↓wNext_eq, ↓wBreak_eq, ↓wCont_eq, ↓wSeq_eq, ↓wDrop_eq, ↓wRet_eq, ↓wRetN_eq, ↓wIf_eq, ↓wAsg_eq, ↓wGNil_eq, ↓gOfB_eq, ↓endsF_nx, ↓endsF_rt, ↓bnd_some, ↓bnd_none, ↓ind_int, ↓tst_bool, ↓tsto_bool, ↓locR_loc, ↓tupR_tup, ↓cns_cons, ↓two_two, ↓ints1_int, ↓ints2_int, ↓g1_eq, ↓g2_eq, ↓gEq_eq, ↓gNe_eq, ↓gRepr_eq, ↓gIn_one, ↓gIs_bb, ↓gIs_none, ↓gIn_list, ↓gIn_tuple, ↓gSl_list, ↓gSl_tuple, ↓gSl_str, ↓gIx_list, ↓gIx_tuple, ↓gIx_str, ↓gSetL_eq, ↓gSum_eq, ↓gBools_eq, ↓gJoin_eq, ↓gAdd.eq_1, ↓gAdd.eq_2, ↓gAdd.eq_3, ↓gAdd.eq_4, ↓PL.gSub.eq_1, ↓gMod.eq_1, ↓gDiv.eq_1, ↓gPow.eq_1, ↓gMul.eq_1, ↓gMul.eq_2, ↓gMul.eq_3, ↓gCmp.eq_1, ↓gCmp.eq_2, ↓gLen.eq_1, ↓gLen.eq_2, ↓gLen.eq_3, ↓gAbs.eq_1, ↓gInt.eq_1, ↓gInt.eq_2, ↓gI2.eq_1, ↓gTup1.eq_1, ↓gTup1.eq_2, ↓gLst1.eq_1, ↓gLst1.eq_2, ↓gAppend.eq_1, ↓gCount.eq_1, ↓gUpper.eq_1, ↓wGet1_eq, ↓wGet2_eq, ↓wNewK_eq, ↓wNewT_eq, ↓wTupO_eq, ↓wCallR_eq, ↓wParN_eq, ↓wPar3_eq, ↓wGTupL_eq, ↓wDisp1_eq, ↓wForK_eq, ↓gPopAt_0, ↓gStr_l, ↓gStr_t, ↓gLenA_l, ↓gLenA_t, ↓gLenA_s, ↓gLenA_d, ↓gMulT_eq, ↓gLtP_t, ↓gLtP_i, ↓gLtP_s, ↓asgnAll_nil, ↓asgnAll_cons, ↓wGSubT_eq, ↓wZip_eq, ↓gIxA_list, ↓gIxA_tuple, ↓gIxA_str, ↓gIxA_dict, ↓gInA_list, ↓gInA_tuple, ↓gInA_str, ↓gInA_dict, ↓gSetD_dict, ↓gDict1_tuple, ↓gDict1_list, ↓gReverse_list, ↓gExtend_list, ↓gLst2_list, ↓gLst2_tuple, ↓gLst2_dict, ↓gLst3_str, ↓gLst3_list, ↓gLst3_tuple, ↓gLst3_dict, ↓wRngDn_eq, ↓ints3_eq, ↓fzd_fz, ↓dcO_dict, ↓wIc_eq, ↓wItB_eq, ↓lstO_list, isK, fzO_list, fzO_dict, fzO_ts, fzO_ti, fzO_tl, eqv_int, eqv_str, eqv_bool, eqv_ns, eqv_sn, eqv_nn, eqv_ni, eqv_in, eqv_si, eqv_is, eqOk_int, eqOk_str, eqOk_bool, eqOk_ns, eqOk_sn, eqOk_nn, eqOk_ni, eqOk_in, eqOk_si, eqOk_is, beq_iff_eq, ixN_0, ixN_1, ixN_2, ixN_3, ixN_4, ixN_5, ixN_6, ixN_7, atI_0, atI_1, atI_2, atI_3, atI_4, atI_5, atI_6, atI_7, rVar, lookAll, ownAt?, look, frz, frzAll, Out.res, okSlot_eq, okO_some, okS_fz, okS_ow, okS_sc, okS_none, wipeE, restE, prep, back, lent, lentOk, outsOf, outsFrom, argE, Res.good, isTy, tyN, noDict, itD, scAt, owA, fixR, isL, isS, seqOf, truth, truOk, okF, nt, unp, unpL, dkAt, lookR, lookRs, okR, isScal, dicAt, dicOf, fixRs, keyT, List.getElem?_cons_zero, List.getElem?_cons_succ, List.set_cons_zero, List.set_cons_succ, List.replicate_zero, List.replicate_succ, List.cons_append, List.nil_append, List.append_nil, Option.some.injEq, Prod.mk.injEq, PyData.int.injEq, PyData.list.injEq, PyData.str.injEq, PyData.bool.injEq, PyData.tuple.injEq, Res.loc.injEq, Res.fz.injEq, Res.ow.injEq, and_true, true_and, List.length_cons, List.length_nil, if_true, if_false, reduceIte, Bool.false_eq_true, Option.map_some, List.cons.injEq, List.mem_cons, List.not_mem_nil, or_false, forall_eq, forall_eq_or_imp, not_true_eq_false, not_false_eq_true, Bool.not_true, Bool.not_false, forall_const, List.nodup_nil, List.nodup_cons, Option.isSome_some, Option.isSome_none, Option.map_none, Option.bind_some, Option.bind_none, decide_eq_true_eq, Nat.reduceLeDiff, Nat.reduceAdd, Nat.zero_add, exists_eq', Int.reduceLT, Int.reduceLE, Int.reduceNeg, Int.reducePow, Nat.reducePow, Int.reduceToNat, Int.reduceAdd, Int.reduceMul, Nat.reduceMul, Nat.reduceEqDiff, Nat.reduceSub, String.reduceBEq, beq_self_eq_true, Bool.and_true, Bool.true_and, Bool.or_true, Bool.true_or, Bool.or_false, Bool.false_or, Bool.and_false, Bool.false_and, Bool.not_eq_true, Bool.not_eq_false, reduceCtorEq])
theorem c1_nm {c : Nat} (h : 97 ≤ c ∧ c < 123) : NmOk (c1 c) := ⟨(TOk.one (by omega)).mono (by omega), by simp, fun d hd => by
  have : d = c := by simpa using hd
  rw [this]; exact h⟩
theorem c1_inj {a b : Nat} (h : c1 a = c1 b) : a = b := by
  have := congrArg (fun z : Str => z.cps.toList) h
  simpa using this
theorem cast_mod (f b k M : Nat) : ((f : Int) + (b : Int) * (k : Int)) % (M : Int) = (((f + b * k) % M : Nat) : Int) := by
  rw [Int.natCast_emod, Int.natCast_add, Int.natCast_mul]
theorem at_let {v : Nat} (hv : v < 26) : atI (LET.cps.toList) (v : Int) = some (97 + v) := by
  have hl : LET.cps.toList.length = 26 := by decide +kernel
  rw [atI_lt (by omega) (by omega)]
  have := let_at v hv
  obtain ⟨h1, h2⟩ := List.getElem?_eq_some_iff.mp this
  simpa using h2
theorem names_5 {D0 : DEnds} {n m f bn : Nat} {b : D} {x3 x5 x8 x9 x10 x12 x13 : Slot} (hb : LBox n b) (hn : n ≤ 900000) (hm : m ≤ 36) (hf : f < 676) (hbn : bn ∈ [(1 : Nat), 3, 5, 7, 25, 675])
    (hR : ∀ zs b', LBox (n + 1) b' → NamesOk m zs → D0.rt (.ow (.list (zs.map .str))) (eN b' m LET x3 x5 (some (.fz, .int f)) (some (.fz, .int bn)) x8 x9 x10 none x12 x13))
    (hK : ∀ b', LBox (n + 1) b' → D0.nx (eN b' m LET x3 x5 (some (.fz, .int f)) (some (.fz, .int bn)) x8 x9 x10 none x12 x13)) :
    w__law_some_names_5 D0 (eN b m LET x3 x5 (some (.fz, .int f)) (some (.fz, .int bn)) x8 x9 x10 none x12 x13) := by
  have hb0 : bn < 676 := by
    simp only [List.mem_cons, List.not_mem_nil, or_false] at hbn; omega
  have hal := @at_let
  have hL2 : LET.cps.toList.length = 26 := by decide +kernel
  unfold LET at hR hK hal hL2 ⊢
  generalize PySem.Str.ofString "abcdefghijklmnopqrstuvwxyz" = L at hR hK hal hL2 ⊢
  push_cast [w__law_some_names_5, eN]
  split
  · rename_i h27
    refine callT_of (pick_ok hb (by omega) (by decide) (by decide) fun r b1 hb1 r0 r1 _ _ => ?_)
    push_cast
    split
    · rw [rngD_len]
      refine ⟨by omega, by omega, ?_⟩
      refine lcLT_inv (hs := fun _ _ _ _ => True.intro) (fun i acc e => acc = ((List.range i).map fun k => c1 (97 + (f + bn * k) % 26)).map PyData.str ∧ e = eN b1 m L x3 x5 (some (.fz, .int f)) (some (.fz, .int bn)) x8 x9 x10 none x12 x13) ⟨rfl, rfl⟩ (fun i d' acc e K hd hi hk => ?_) (fun acc e hi => ?_)
      · obtain ⟨rfl, rfl⟩ := hi
        obtain ⟨hi, rfl⟩ := rngD_get hd
        have e1 : ((f : Int) + (bn : Int) * (0 + (i : Int))) % 26 = (((f + bn * i) % 26 : Nat) : Int) := by rw [Int.zero_add]; exact cast_mod f bn i 26
        have e2 := hal (v := (f + bn * i) % 26) (Nat.mod_lt _ (by decide))
        push_cast [eN, e1, e2]
        refine ⟨.inl ⟨by omega, by omega⟩, by rw [slen]; omega, hk _ _ ⟨?_, rfl⟩⟩
        rw [List.range_succ, List.map_append, List.map_append]; rfl
      · obtain ⟨rfl, rfl⟩ := hi
        rw [rngD_len]
        push_cast [eN]
        refine hR _ _ hb1 ⟨by rw [List.length_map, List.length_range, Int.toNat_natCast], fun z hz => ?_, ?_⟩
        · obtain ⟨k, _, rfl⟩ := List.mem_map.mp hz
          have := Nat.mod_lt (f + bn * k) (show 0 < 26 by decide)
          exact c1_nm (by omega)
        · refine nd_map List.nodup_range fun i hi j hj h => ?_
          rw [List.mem_range, Int.toNat_natCast] at hi hj
          have := c1_inj h
          exact unlike (first := f) (prime26 bn hbn) (by omega) (by omega) (by omega)
    · exact hK _ hb1
  · exact hK _ (hb.mono (by omega))
abbrev nmC (head tail : Str) (f bn k : Nat) : Str := head ++ (c1 (97 + (f + bn * k) % 676 / 26) ++ c1 (97 + (f + bn * k) % 676 % 26)) ++ cutS tail none (some ((k * k + f) % 4))
theorem nmC_ok {head tail : Str} {f bn k : Nat} (hh : Lt 3 head) (ht : Lt 3 tail) : NmOk (nmC head tail f bn k) := by
  unfold nmC
  have h1 := Nat.mod_lt (f + bn * k) (show 0 < 676 by decide)
  generalize (f + bn * k) % 676 = v at h1 ⊢
  have h2 := Nat.mod_lt v (show 0 < 26 by decide)
  have h3 : v / 26 < 26 := by omega
  generalize hv1 : 97 + v / 26 = a
  generalize hv2 : 97 + v % 26 = b
  have ct : TOk 3 (cutS tail none (some ((k * k + f : Int) % 4))) := ht.tok.cut none _
  have cl : ∀ c ∈ (cutS tail none (some ((k * k + f : Int) % 4))).cps.toList, 97 ≤ c ∧ c < 123 := fun c hc => by
    rw [cut_head (Int.emod_nonneg _ (by decide))] at hc
    exact ht.let_ c (List.mem_of_mem_take hc)
  generalize cutS tail none (some ((k * k + f : Int) % 4)) = t at ct cl
  have ta : TOk 1 (c1 a) := TOk.one (by omega)
  have tb : TOk 1 (c1 b) := TOk.one (by omega)
  have tt : TOk (3 + (1 + 1) + 3) (head ++ (c1 a ++ c1 b) ++ t) := (hh.tok.app (ta.app tb)).app ct
  refine ⟨tt, ?_, fun c hc => ?_⟩
  · have hm : a ∈ (head ++ (c1 a ++ c1 b) ++ t).cps.toList := by
      rw [app_l2, app_l2, app_l2]
      exact List.mem_append_left _ (List.mem_append_right _ (List.mem_append_left _ (by simp)))
    exact List.length_pos_of_mem hm
  · rw [app_l2, app_l2, app_l2] at hc
    rcases List.mem_append.mp hc with hc | hc
    · rcases List.mem_append.mp hc with hc | hc
      · exact hh.let_ c hc
      · rcases List.mem_append.mp hc with hc | hc
        · have : c = a := by simpa using hc
          omega
        · have : c = b := by simpa using hc
          omega
    · exact cl c hc
theorem nmC_inj {head tail : Str} {f bn : Nat} (hbn : bn ∈ [(1 : Nat), 3, 5, 7, 25, 675]) {i j : Nat} (hi : i < 36) (hj : j < 36) (h : nmC head tail f bn i = nmC head tail f bn j) : i = j := by
  have h := congrArg (fun z : Str => z.cps.toList) h
  simp only [nmC, app_l2] at h
  simp only [List.append_assoc] at h
  have h := List.append_cancel_left h
  refine unlike (first := f) (prime676 bn hbn) hi hj ?_
  have q1 : 97 + (f + bn * i) % 676 / 26 = 97 + (f + bn * j) % 676 / 26 ∧ 97 + (f + bn * i) % 676 % 26 = 97 + (f + bn * j) % 676 % 26 := by
    simp only [List.cons_append, List.nil_append, List.append_assoc, List.cons.injEq] at h
    exact ⟨h.1, h.2.1⟩
  generalize (f + bn * i) % 676 = x at q1 ⊢
  generalize (f + bn * j) % 676 = y at q1 ⊢
  omega
theorem names_678 {D0 : DEnds} {n m f bn : Nat} {b : D} {head tail : Str} {x8 x9 x10 x11 x12 x13 : Slot} (hm : m ≤ 36) (hh : Lt 3 head) (ht : Lt 3 tail) (hf : f < 676) (hbn : bn ∈ [(1 : Nat), 3, 5, 7, 25, 675]) (o10 : okS x10 = true) (o11 : okS x11 = true) (o12 : okS x12 = true) (o13 : okS x13 = true)
    (hR : ∀ zs x10 x11 x12 x13, NamesOk m zs → D0.rt (.ow (.list (zs.map .str))) (eN b m LET (some (.fz, .str head)) (some (.fz, .str tail)) (some (.fz, .int f)) (some (.fz, .int bn)) x8 x9 x10 x11 x12 x13)) :
    wSeq w__law_some_names_6 (wSeq w__law_some_names_7 w__law_some_names_8) D0 (eN b m LET (some (.fz, .str head)) (some (.fz, .str tail)) (some (.fz, .int f)) (some (.fz, .int bn)) x8 x9 x10 x11 x12 x13) := by
  have hb0 : bn < 676 := by
    simp only [List.mem_cons, List.not_mem_nil, or_false] at hbn; omega
  have hal := @at_let
  have hL2 : LET.cps.toList.length = 26 := by decide +kernel
  unfold LET at hR hal hL2 ⊢
  generalize PySem.Str.ofString "abcdefghijklmnopqrstuvwxyz" = L at hR hal hL2 ⊢
  push_cast [w__law_some_names_6, eN, o10, w__law_some_names_7]
  refine ⟨by omega, ?_⟩
  refine forLT_inv (fun i e => ∃ x11 x12 x13, e = eN b m L (some (.fz, .str head)) (some (.fz, .str tail)) (some (.fz, .int f)) (some (.fz, .int bn)) x8 x9 (some (.ow, .list (((List.range i).map (nmC head tail f bn)).map .str))) x11 x12 x13 ∧ okS x11 = true ∧ okS x12 = true ∧ okS x13 = true) ⟨_, _, _, rfl, o11, o12, o13⟩ (fun i d e K hd hi hk => ?_) (fun e hi => ?_)
  · obtain ⟨x11, x12, x13, rfl, o11, o12, o13⟩ := hi
    obtain ⟨hi, rfl⟩ := rngD_get hd
    have hv := Nat.mod_lt (f + bn * i) (show 0 < 676 by decide)
    have e1 : ((f : Int) + (bn : Int) * (i : Int)) % 676 = (((f + bn * i) % 676 : Nat) : Int) := cast_mod f bn i 676
    have e2 : (((f + bn * i) % 676 : Nat) : Int) / 26 = (((f + bn * i) % 676 / 26 : Nat) : Int) := by omega
    have e3 : (((f + bn * i) % 676 : Nat) : Int) % 26 = (((f + bn * i) % 676 % 26 : Nat) : Int) := by omega
    have e4 := hal (v := (f + bn * i) % 676 / 26) (by omega)
    have e5 := hal (v := (f + bn * i) % 676 % 26) (Nat.mod_lt _ (by decide))
    push_cast [eN, o11, b__law_some_names_2, b__law_some_names_2_0, o12, e1, b__law_some_names_2_1, e2, e3, e4, e5, o13, b__law_some_names_2_2, Int.zero_add]
    have hhl := hh.tok.l
    have htl := ht.tok.l
    have a1 : ∀ c, (c1 c).length = 1 := fun _ => rfl
    have a2 : (c1 (97 + (f + bn * i) % 676 / 26) ++ c1 (97 + (f + bn * i) % 676 % 26)).length = 2 := by rw [slen, app_l2]; rfl
    have a3 : (head ++ (c1 (97 + (f + bn * i) % 676 / 26) ++ c1 (97 + (f + bn * i) % 676 % 26))).length ≤ 5 := by rw [slen, app_l2, List.length_append, ← slen, ← slen, a2]; omega
    have a4 : (cutS tail none (some (((i : Int) * (i : Int) + (f : Int)) % 4))).length ≤ 3 := (ht.tok.cut none _).l
    refine ⟨.inl ⟨by omega, by omega⟩, by rw [slen]; omega, by rw [slen]; omega, by rw [a1, a1]; decide, by rw [a2]; omega, .inl ⟨by omega, by omega⟩, by omega, Nat.le_trans (Nat.add_le_add a3 a4) (by decide), by rw [List.length_map, List.length_map, List.length_range]; omega, hk _ ⟨some (.fz, .int i), some (.fz, .int (((f + bn * i) % 676 : Nat) : Int)), some (.fz, .str (c1 (97 + (f + bn * i) % 676 / 26) ++ c1 (97 + (f + bn * i) % 676 % 26))), ?_, rfl, rfl, rfl⟩⟩
    simp only [List.range_succ, List.map_append]
    rfl
  · obtain ⟨x11, x12, x13, rfl, o11, o12, o13⟩ := hi
    rw [rngD_len]
    push_cast [eN, w__law_some_names_8]
    refine hR _ _ _ _ _ ⟨by rw [List.length_map, List.length_range, Int.toNat_natCast], fun z hz => ?_, ?_⟩
    · obtain ⟨k, _, rfl⟩ := List.mem_map.mp hz
      exact nmC_ok hh ht
    · refine nd_map List.nodup_range fun i hi j hj h => ?_
      rw [List.mem_range, Int.toNat_natCast] at hi hj
      exact nmC_inj hbn (by omega) (by omega) h
end K14
set_option Elab.async false
set_option linter.all false
set_option autoImplicit false
set_option maxRecDepth 100000
set_option maxHeartbeats 4000000
namespace K14
open PySem PySem.Spec PyProof.Rows L2 PL
local macro_rules
  | `(tactic| push_cast [$xs,*]) => `(tactic| simp -dsimp -implicitDefEqProofs only [$xs,*, ↓w2_eq, ↓wT_eq, ↓wChain_eq, ↓wTru_eq, ↓wAndV_eq, ↓wOrV_eq, ↓wNotV_eq, ↓wNeg_eq, ↓wPart_eq, ↓wSl_eq, ↓wN_eq, ↓wM_eq, ↓wMut_eq, ↓wTup_eq, ↓wLst_eq, ↓wCall_eq, ↓wGTup_eq, ↓wGCons_eq, ↓wGSub_eq, ↓wIsi_eq, ↓wIsi2_eq, ↓wIt_eq, ↓wRng1_eq, ↓wRng2_eq, ↓wLenSc_eq, ↓wIxSc_eq, ↓wPar_eq, ↓asgn_eq, ↓asgn_fz, ↓asgn_ow, ↓asgn_loc, ↓retR_fz, ↓retR_ow, ↓retR_loc, ↓wFor_eq, ↓wLc_eq, ↓wVar_eq, ↓wC_eq, ↓wNil_eq, ↓wCons_eq, ↓wAndT_eq, ↓wOrT_eq, ↓wNotT_eq, ↓wIfE_eq, ↓wNoPart_eq, ↓wYes_eq, ↓wNext_eq, ↓wBreak_eq, ↓wCont_eq, ↓wSeq_eq, ↓wDrop_eq, ↓wRet_eq, ↓wRetN_eq, ↓wIf_eq, ↓wAsg_eq, ↓wGNil_eq, ↓gOfB_eq, ↓endsF_nx, ↓endsF_rt, ↓bnd_some, ↓bnd_none, ↓ind_int, ↓tst_bool, ↓tsto_bool, ↓locR_loc, ↓tupR_tup, ↓cns_cons, ↓two_two, ↓ints1_int, ↓ints2_int, ↓g1_eq, ↓g2_eq, ↓gEq_eq, ↓gNe_eq, ↓gRepr_eq, ↓gIn_one, ↓gIs_bb, ↓gIs_none, ↓gIn_list, ↓gIn_tuple, ↓gSl_list, ↓gSl_tuple, ↓gSl_str, ↓gIx_list, ↓gIx_tuple, ↓gIx_str, ↓gSetL_eq, ↓gSum_eq, ↓gBools_eq, ↓gJoin_eq, ↓gAdd.eq_1, ↓gAdd.eq_2, ↓gAdd.eq_3, ↓gAdd.eq_4, ↓PL.gSub.eq_1, ↓gMod.eq_1, ↓gDiv.eq_1, ↓gPow.eq_1, ↓gMul.eq_1, ↓gMul.eq_2, ↓gMul.eq_3, ↓gCmp.eq_1, ↓gCmp.eq_2, ↓gLen.eq_1, ↓gLen.eq_2, ↓gLen.eq_3, ↓gAbs.eq_1, ↓gInt.eq_1, ↓gInt.eq_2, ↓gI2.eq_1, ↓gTup1.eq_1, ↓gTup1.eq_2, ↓gLst1.eq_1, ↓gLst1.eq_2, ↓gAppend.eq_1, ↓gCount.eq_1, ↓gUpper.eq_1, ↓wGet1_eq, ↓wGet2_eq, ↓wNewK_eq, ↓wNewT_eq, ↓wTupO_eq, ↓wCallR_eq, ↓wParN_eq, ↓wPar3_eq, ↓wGTupL_eq, ↓wDisp1_eq, ↓wForK_eq, ↓gPopAt_0, ↓gStr_l, ↓gStr_t, ↓gLenA_l, ↓gLenA_t, ↓gLenA_s, ↓gLenA_d, ↓gMulT_eq, ↓gLtP_t, ↓gLtP_i, ↓gLtP_s, ↓asgnAll_nil, ↓asgnAll_cons, ↓wGSubT_eq, ↓wZip_eq, ↓gIxA_list, ↓gIxA_tuple, ↓gIxA_str, ↓gIxA_dict, ↓gInA_list, ↓gInA_tuple, ↓gInA_str, ↓gInA_dict, ↓gSetD_dict, ↓gDict1_tuple, ↓gDict1_list, ↓gReverse_list, ↓gExtend_list, ↓gLst2_list, ↓gLst2_tuple, ↓gLst2_dict, ↓gLst3_str, ↓gLst3_list, ↓gLst3_tuple, ↓gLst3_dict, ↓wRngDn_eq, ↓ints3_eq, ↓fzd_fz, ↓dcO_dict, ↓wIc_eq, ↓wItB_eq, ↓lstO_list, isK, fzO_list, fzO_dict, fzO_ts, fzO_ti, fzO_tl, eqv_int, eqv_str, eqv_bool, eqv_ns, eqv_sn, eqv_nn, eqv_ni, eqv_in, eqv_si, eqv_is, eqOk_int, eqOk_str, eqOk_bool, eqOk_ns, eqOk_sn, eqOk_nn, eqOk_ni, eqOk_in, eqOk_si, eqOk_is, beq_iff_eq, ixN_0, ixN_1, ixN_2, ixN_3, ixN_4, ixN_5, ixN_6, ixN_7, atI_0, atI_1, atI_2, atI_3, atI_4, atI_5, atI_6, atI_7, rVar, lookAll, ownAt?, look, frz, frzAll, Out.res, okSlot_eq, okO_some, okS_fz, okS_ow, okS_sc, okS_none, wipeE, restE, prep, back, lent, lentOk, outsOf, outsFrom, argE, Res.good, isTy, tyN, noDict, itD, scAt, owA, fixR, isL, isS, seqOf, truth, truOk, okF, nt, unp, unpL, dkAt, lookR, lookRs, okR, isScal, dicAt, dicOf, fixRs, keyT, List.getElem?_cons_zero, List.getElem?_cons_succ, List.set_cons_zero, List.set_cons_succ, List.replicate_zero, List.replicate_succ, List.cons_append, List.nil_append, List.append_nil, Option.some.injEq, Prod.mk.injEq, PyData.int.injEq, PyData.list.injEq, PyData.str.injEq, PyData.bool.injEq, PyData.tuple.injEq, Res.loc.injEq, Res.fz.injEq, Res.ow.injEq, and_true, true_and, List.length_cons, List.length_nil, if_true, if_false, reduceIte, Bool.false_eq_true, Option.map_some, List.cons.injEq, List.mem_cons, List.not_mem_nil, or_false, forall_eq, forall_eq_or_imp, not_true_eq_false, not_false_eq_true, Bool.not_true, Bool.not_false, forall_const, List.nodup_nil, List.nodup_cons, Option.isSome_some, Option.isSome_none, Option.map_none, Option.bind_some, Option.bind_none, decide_eq_true_eq, Nat.reduceLeDiff, Nat.reduceAdd, Nat.zero_add, exists_eq', Int.reduceLT, Int.reduceLE, Int.reduceNeg, Int.reducePow, Nat.reducePow, Int.reduceToNat, Int.reduceAdd, Int.reduceMul, Nat.reduceMul, Nat.reduceEqDiff, Nat.reduceSub, String.reduceBEq, beq_self_eq_true, Bool.and_true, Bool.true_and, Bool.or_true, Bool.true_or, Bool.or_false, Bool.false_or, Bool.and_false, Bool.false_and, Bool.not_eq_true, Bool.not_eq_false, reduceCtorEq])
  | `(tactic| push_cast) => `(tactic| simp -dsimp -implicitDefEqProofs only [↓w2_eq, ↓wT_eq, ↓wChain_eq, ↓wTru_eq, ↓wAndV_eq, ↓wOrV_eq, ↓wNotV_eq, ↓wNeg_eq, ↓wPart_eq, ↓wSl_eq, ↓wN_eq, ↓wM_eq, ↓wMut_eq, ↓wTup_eq, ↓wLst_eq, ↓wCall_eq, ↓wGTup_eq, ↓wGCons_eq, ↓wGSub_eq, ↓wIsi_eq, ↓wIsi2_eq, ↓wIt_eq, ↓wRng1_eq, ↓wRng2_eq, ↓wLenSc_eq, ↓wIxSc_eq, ↓wPar_eq, ↓asgn_eq, ↓asgn_fz, ↓asgn_ow, ↓asgn_loc, ↓retR_fz, ↓retR_ow, ↓retR_loc, ↓wFor_eq, ↓wLc_eq, ↓wVar_eq, ↓wC_eq, ↓wNil_eq, ↓wCons_eq, ↓wAndT_eq, ↓wOrT_eq, ↓wNotT_eq, ↓wIfE_eq, ↓wNoPart_eq, ↓wYes_eq, ↓wNext_eq, ↓wBreak_eq, ↓wCont_eq, ↓wSeq_eq, ↓wDrop_eq, ↓wRet_eq, ↓wRetN_eq, ↓wIf_eq, ↓wAsg_eq, ↓wGNil_eq, ↓gOfB_eq, ↓endsF_nx, ↓endsF_rt, ↓bnd_some, ↓bnd_none, ↓ind_int, ↓tst_bool, ↓tsto_bool, ↓locR_loc, ↓tupR_tup, ↓cns_cons, ↓two_two, ↓ints1_int, ↓ints2_int, ↓g1_eq, ↓g2_eq, ↓gEq_eq, ↓gNe_eq, ↓gRepr_eq, ↓gIn_one, ↓gIs_bb, ↓gIs_none, ↓gIn_list, ↓gIn_tuple, ↓gSl_list, ↓gSl_tuple, ↓gSl_str, ↓gIx_list, ↓gIx_tuple, ↓gIx_str, ↓gSetL_eq, ↓gSum_eq, ↓gBools_eq, ↓gJoin_eq, ↓gAdd.eq_1, ↓gAdd.eq_2, ↓gAdd.eq_3, ↓gAdd.eq_4, ↓PL.gSub.eq_1, ↓gMod.eq_1, ↓gDiv.eq_1, ↓gPow.eq_1, ↓gMul.eq_1, ↓gMul.eq_2, ↓gMul.eq_3, ↓gCmp.eq_1, ↓gCmp.eq_2, ↓gLen.eq_1, ↓gLen.eq_2, ↓gLen.eq_3, ↓gAbs.eq_1, ↓gInt.eq_1, ↓gInt.eq_2, ↓gI2.eq_1, ↓gTup1.eq_1, ↓gTup1.eq_2, ↓gLst1.eq_1, ↓gLst1.eq_2, ↓gAppend.eq_1, ↓gCount.eq_1, ↓gUpper.eq_1, ↓wGet1_eq, ↓wGet2_eq, ↓wNewK_eq, ↓wNewT_eq, ↓wTupO_eq, ↓wCallR_eq, ↓wParN_eq, ↓wPar3_eq, ↓wGTupL_eq, ↓wDisp1_eq, ↓wForK_eq, ↓gPopAt_0, ↓gStr_l, ↓gStr_t, ↓gLenA_l, ↓gLenA_t, ↓gLenA_s, ↓gLenA_d, ↓gMulT_eq, ↓gLtP_t, ↓gLtP_i, ↓gLtP_s, ↓asgnAll_nil, ↓asgnAll_cons, ↓wGSubT_eq, ↓wZip_eq, ↓gIxA_list, ↓gIxA_tuple, ↓gIxA_str, ↓gIxA_dict, ↓gInA_list, ↓gInA_tuple, ↓gInA_str, ↓gInA_dict, ↓gSetD_dict, ↓gDict1_tuple, ↓gDict1_list, ↓gReverse_list, ↓gExtend_list, ↓gLst2_list, ↓gLst2_tuple, ↓gLst2_dict, ↓gLst3_str, ↓gLst3_list, ↓gLst3_tuple, ↓gLst3_dict, ↓wRngDn_eq, ↓ints3_eq, ↓fzd_fz, ↓dcO_dict, ↓wIc_eq, ↓wItB_eq, ↓lstO_list, isK, fzO_list, fzO_dict, fzO_ts, fzO_ti, fzO_tl, eqv_int, eqv_str, eqv_bool, eqv_ns, eqv_sn, eqv_nn, eqv_ni, eqv_in, eqv_si, eqv_is, eqOk_int, eqOk_str, eqOk_bool, eqOk_ns, eqOk_sn, eqOk_nn, eqOk_ni, eqOk_in, eqOk_si, eqOk_is, beq_iff_eq, ixN_0, ixN_1, ixN_2, ixN_3, ixN_4, ixN_5, ixN_6, ixN_7, atI_0, atI_1, atI_2, atI_3, atI_4, atI_5, atI_6, atI_7, rVar, lookAll, ownAt?, look, frz, frzAll, Out.res, okSlot_eq, okO_some, okS_fz, okS_ow, okS_sc, okS_none, wipeE, restE, prep, back, lent, lentOk, outsOf, outsFrom, argE, Res.good, isTy, tyN, noDict, itD, scAt, owA, fixR, isL, isS, seqOf, truth, truOk, okF, nt, unp, unpL, dkAt, lookR, lookRs, okR, isScal, dicAt, dicOf, fixRs, keyT, List.getElem?_cons_zero, List.getElem?_cons_succ, List.set_cons_zero, List.set_cons_succ, List.replicate_zero, List.replicate_succ, List.cons_append, List.nil_append, List.append_nil, Option.some.injEq, Prod.mk.injEq, PyData.int.injEq, PyData.list.injEq, PyData.str.injEq, PyData.bool.injEq, PyData.tuple.injEq, Res.loc.injEq, Res.fz.injEq, Res.ow.injEq, and_true, true_and, List.length_cons, List.length_nil, if_true, if_false, reduceIte, Bool.false_eq_true, Option.map_some, List.cons.injEq, List.mem_cons, List.not_mem_nil, or_false, forall_eq, forall_eq_or_imp, not_true_eq_false, not_false_eq_true, Bool.not_true, Bool.not_false, forall_const, List.nodup_nil, List.nodup_cons, Option.isSome_some, Option.isSome_none, Option.map_none, Option.bind_some, Option.bind_none, decide_eq_true_eq, Nat.reduceLeDiff, Nat.reduceAdd, Nat.zero_add, exists_eq', Int.reduceLT, Int.reduceLE, Int.reduceNeg, Int.reducePow, Nat.reducePow, Int.reduceToNat, Int.reduceAdd, Int.reduceMul, Nat.reduceMul, Nat.reduceEqDiff, Nat.reduceSub, String.reduceBEq, beq_self_eq_true, Bool.and_true, Bool.true_and, Bool.or_true, Bool.true_or, Bool.or_false, Bool.false_or, Bool.and_false, Bool.false_and, Bool.not_eq_true, Bool.not_eq_false, reduceCtorEq])
theorem cut_mid {z : Str} {k s : Nat} (h : k + s ≤ z.cps.toList.length) : (cutS z (some (k : Int)) (some ((k : Int) + (s : Int)))).cps.toList = (z.cps.toList.drop k).take s := by
  unfold cutS HT.sIx
  dsimp only
  rw [if_neg (by omega), if_neg (by omega)]
  show ((z.cps.toList.drop (min (k : Int).toNat z.length)).take (min ((k : Int) + (s : Int)).toNat z.length - min (k : Int).toNat z.length)).toArray.toList = _
  rw [List.toList_toArray, slen, Int.toNat_natCast, show ((k : Int) + (s : Int)).toNat = k + s by omega, Nat.min_eq_left h, Nat.min_eq_left (show k ≤ _ by omega), Nat.add_sub_cancel_left]
abbrev stemL (f : Nat) : List Nat := (List.range 8).map fun k => 97 + (f + 5 * k) % 26
abbrev stem (f : Nat) : Str := Txt.join Str.empty ((stemL f).map c1)
abbrev piece (f : Nat) (p : Nat × Nat) : Str := cutS (stem f) (some (p.2 : Int)) (some ((p.2 : Int) + (p.1 : Int)))
abbrev idx (i : Nat) : List (Nat × Nat) := (List.range i).flatMap fun s => (List.range (8 - s)).map fun k => (s + 1, k)
theorem idx8 : ∀ p ∈ idx 8, 1 ≤ p.1 ∧ p.2 + p.1 ≤ 8 := by decide +kernel
theorem idx8_nd : (idx 8).Nodup := by decide +kernel
theorem idx8_len : (idx 8).length = 36 := by decide +kernel
theorem piece_l {f : Nat} {p : Nat × Nat} (h : p.2 + p.1 ≤ 8) : (piece f p).cps.toList = ((stemL f).drop p.2).take p.1 := by
  have e : (stem f).cps.toList = stemL f := join_c1 _
  have := cut_mid (z := stem f) (k := p.2) (s := p.1) (by rw [e]; simpa using h)
  rw [e] at this
  exact this
theorem stem_let (f : Nat) : ∀ c ∈ stemL f, 97 ≤ c ∧ c < 123 := fun c hc => by
  obtain ⟨k, _, rfl⟩ := List.mem_map.mp hc
  have := Nat.mod_lt (f + 5 * k) (show 0 < 26 by decide)
  omega
theorem piece_nm {f : Nat} {p : Nat × Nat} (h1 : 1 ≤ p.1) (h : p.2 + p.1 ≤ 8) : NmOk (piece f p) := by
  have hs := join_lt (stem_let f)
  have hl : (stemL f).length = 8 := by simp
  rw [hl] at hs
  refine ⟨hs.tok.cut _ _, ?_, fun c hc => ?_⟩
  · rw [piece_l h, List.length_take, List.length_drop, hl]; omega
  · rw [piece_l h] at hc
    exact stem_let f c (List.mem_of_mem_drop (List.mem_of_mem_take hc))
theorem piece_inj {f : Nat} {p q : Nat × Nat} (h1 : 1 ≤ p.1) (hp : p.2 + p.1 ≤ 8) (g1 : 1 ≤ q.1) (hq : q.2 + q.1 ≤ 8) (h : piece f p = piece f q) : p = q := by
  have h := congrArg (fun z : Str => z.cps.toList) h
  simp only [piece_l hp, piece_l hq] at h
  have hl : (stemL f).length = 8 := by simp
  have e1 := congrArg List.length h
  rw [List.length_take, List.length_take, List.length_drop, List.length_drop, hl] at e1
  have e2 := congrArg (fun l => l[0]?) h
  simp only [List.getElem?_take, List.getElem?_drop] at e2
  rw [if_pos (by omega), if_pos (by omega)] at e2
  simp only [Nat.add_zero, stemL, List.getElem?_map] at e2
  rw [List.getElem?_range (by omega), List.getElem?_range (by omega)] at e2
  simp only [Option.map_some, Option.some.injEq] at e2
  have := unlike (first := f) (prime26 5 (by simp)) (i := p.2) (j := q.2) (by omega) (by omega) (by omega)
  exact Prod.ext (by omega) this
theorem names_4 {D0 : DEnds} {n m f bn : Nat} {b : D} {x3 x5 x8 x9 x10 x12 x13 : Slot} (hb : LBox n b) (hn : n ≤ 900000) (hm : m ≤ 36) (hf : f < 676) (o8 : okS x8 = true) (o9 : okS x9 = true) (o10 : okS x10 = true)
    (hR : ∀ zs b' x8 x9 x10, LBox (n + 1) b' → NamesOk m zs → D0.rt (.ow (.list (zs.map .str))) (eN b' m LET x3 x5 (some (.fz, .int f)) (some (.fz, .int bn)) x8 x9 x10 none x12 x13))
    (hK : ∀ b', LBox (n + 1) b' → D0.nx (eN b' m LET x3 x5 (some (.fz, .int f)) (some (.fz, .int bn)) x8 x9 x10 none x12 x13)) :
    w__law_some_names_4 D0 (eN b m LET x3 x5 (some (.fz, .int f)) (some (.fz, .int bn)) x8 x9 x10 none x12 x13) := by
  have hal := @at_let
  have hL2 : LET.cps.toList.length = 26 := by decide +kernel
  have hem : PySem.Str.ofString "" = PySem.Str.empty := rfl
  unfold LET at hR hK hal hL2 ⊢
  generalize PySem.Str.ofString "abcdefghijklmnopqrstuvwxyz" = L at hR hK hal hL2 ⊢
  push_cast [w__law_some_names_4, eN]
  refine callT_of (pick_ok hb (by omega) (by decide) (by decide) fun r b1 hb1 r0 r1 _ _ => ?_)
  push_cast
  split
  · rw [rngD_len]
    refine ⟨by decide, ?_⟩
    refine lcLT_inv (hs := fun _ _ _ _ => True.intro) (fun i acc e => acc = (((List.range i).map fun k => 97 + (f + 5 * k) % 26).map c1).map PyData.str ∧ e = eN b1 m L x3 x5 (some (.fz, .int f)) (some (.fz, .int bn)) x8 x9 x10 none x12 x13) ⟨rfl, rfl⟩ (fun i d' acc e K hd hi hk => ?_) (fun acc e hi => ?_)
    · obtain ⟨rfl, rfl⟩ := hi
      obtain ⟨hi, rfl⟩ := rngD_get hd
      have e1 : ((f : Int) + 5 * (i : Int)) % 26 = (((f + 5 * i) % 26 : Nat) : Int) := cast_mod f 5 i 26
      have e2 := hal (v := (f + 5 * i) % 26) (Nat.mod_lt _ (by decide))
      push_cast [eN, Int.zero_add, e1, e2]
      refine ⟨.inl trivial, by rw [slen]; omega, hk _ _ ⟨?_, rfl⟩⟩
      simp only [List.range_succ, List.map_append]
      rfl
    · obtain ⟨rfl, rfl⟩ := hi
      rw [rngD_len]
      have hT : ∀ y ∈ (stemL f).map c1, TOk 1 y := by
        intro y hy'
        obtain ⟨c, hc, rfl⟩ := List.mem_map.mp hy'
        have := stem_let f c hc
        exact TOk.one (by omega)
      have h1 := sum_len hT
      have hsl : ((stemL f).map c1).length = 8 := by simp
      have hstl : (stem f).length ≤ 8 := by
        have := (join_lt (stem_let f)).tok.l
        have hl : (stemL f).length = 8 := by simp
        rw [hl] at this
        exact this
      have e8 : ((List.range 8).map fun k => 97 + (f + 5 * k) % 26).map c1 = (stemL f).map c1 := rfl
      rw [e8, hem]
      have est : Txt.join Str.empty ((stemL f).map c1) = stem f := rfl
      have h0 : Str.empty.length = 0 := rfl
      push_cast [eN, PL.strs_map, est, o9, o10]
      refine ⟨by rw [h0, hsl]; omega, ?_⟩
      generalize hST : stem f = ST at hstl
      refine forLT_inv (fun i e => ∃ x8, e = eN b1 m L x3 x5 (some (.fz, .int f)) (some (.fz, .int bn)) x8 (some (.fz, .str ST)) (some (.ow, .list (((idx i).map (piece f)).map .str))) none x12 x13 ∧ okS x8 = true) ⟨_, rfl, o8⟩ (fun i d e K hd hi hk => ?_) (fun e hi => ?_)
      · obtain ⟨x8, rfl, o8⟩ := hi
        obtain ⟨hi, rfl⟩ := rngD_get hd
        push_cast [eN, o8, b__law_some_names_1]
        have hlen : ((idx i).map (piece f)).length ≤ 64 := by
          have : (idx i).length ≤ 64 := by
            have hi' : i < 8 := by omega
            have : ∀ i < 8, (idx i).length ≤ 64 := by decide +kernel
            exact this i hi'
          simpa using this
        have h8 : (9 - (1 + (i : Int))).toNat = 8 - i := by omega
        have e3 : (1 : Int) + (i : Int) = ((i + 1 : Nat) : Int) := by omega
        refine ⟨by omega, by rw [rngD_len]; omega, ?_⟩
        rw [h8]
        refine lcLT_inv (hs := fun _ _ _ _ => True.intro) (fun j acc e => acc = ((List.range j).map fun k => piece f (i + 1, k)).map PyData.str ∧ e = eN b1 m L x3 x5 (some (.fz, .int f)) (some (.fz, .int bn)) (some (.fz, .int (1 + i))) (some (.fz, .str ST)) (some (.ow, .list (((idx i).map (piece f)).map .str))) none x12 x13) ⟨rfl, rfl⟩ (fun j d' acc e K2 hd hi2 hk2 => ?_) (fun acc e hi2 => ?_)
        · obtain ⟨rfl, rfl⟩ := hi2
          obtain ⟨hj, rfl⟩ := rngD_get hd
          push_cast [eN, Int.zero_add]
          refine ⟨by omega, hk2 _ _ ⟨?_, rfl⟩⟩
          rw [List.range_succ, List.map_append, List.map_append, e3, ← hST]
          rfl
        · obtain ⟨rfl, rfl⟩ := hi2
          rw [rngD_len]
          push_cast [eN, gExtend_list]
          refine ⟨by rw [List.length_map, List.length_map, List.length_map, List.length_map, List.length_range]; rw [List.length_map] at hlen; omega, hk _ ⟨some (.fz, .int (1 + i)), ?_, rfl⟩⟩
          have ei : idx (i + 1) = idx i ++ (List.range (8 - i)).map fun k => (i + 1, k) := by
            simp only [idx, List.range_succ, List.flatMap_append, List.flatMap_cons, List.flatMap_nil, List.append_nil]
          have e9 : ((List.range (8 - i)).map fun k => (i + 1, k)).map (piece f) = (List.range (8 - i)).map fun k => piece f (i + 1, k) := by rw [List.map_map]; rfl
          rw [ei, List.map_append, List.map_append, e9]
      · obtain ⟨x8, rfl, o8⟩ := hi
        have hlen : (rngD 1 8).length = 8 := rfl
        rw [rngD_len]
        push_cast [eN]
        have h9 : idx (9 - 1 : Int).toNat = idx 8 := rfl
        rw [h9, cutTo (by rw [List.length_map, List.length_map, idx8_len]; exact hm), ← List.map_take]
        refine hR _ _ _ _ _ hb1 ⟨by rw [List.length_take, List.length_map, idx8_len]; omega, fun z hz => ?_, ?_⟩
        · obtain ⟨p, hp, rfl⟩ := List.mem_map.mp (List.mem_of_mem_take hz)
          obtain ⟨p1, p2⟩ := idx8 p hp
          exact piece_nm p1 p2
        · refine (nd_map idx8_nd fun p hp q hq h => ?_).sublist (List.take_sublist ..)
          obtain ⟨p1, p2⟩ := idx8 p hp
          obtain ⟨q1, q2⟩ := idx8 q hq
          exact piece_inj p1 p2 q1 q2 h
  · exact hK _ hb1
theorem some_names_ok {n m : Nat} {box : D} {Q : Res → List D → Prop} (h : LBox n box) (hn : n ≤ 700000) (hm : m ≤ 36)
    (hQ : ∀ zs box', LBox (n + 20) box' → NamesOk m zs → Q (.ow (.list (zs.map .str))) [box', .none]) : g__law_some_names [box, .int m] Q := by
  have fin : ∀ (zs : List Str) (b' : D) (x3 x5 x6 x7 x8 x9 x10 x11 x12 x13 : Slot), LBox (n + 20) b' → NamesOk m zs → (endsF [Kd.io, Kd.fz] Q).rt (.ow (.list (zs.map .str))) (eN b' m LET x3 x5 x6 x7 x8 x9 x10 x11 x12 x13) := fun zs b' x3 x5 x6 x7 x8 x9 x10 x11 x12 x13 hb hz => by
    push_cast [eN]
    exact hQ zs b' hb hz
  push_cast [g__law_some_names, w__law_some_names, w__law_some_names_0]
  refine names_1 (n := n) h (by omega) rfl fun b1 head hb1 hh => ?_
  refine names_2 hb1 (by omega) rfl fun b2 tail hb2 ht => ?_
  refine names_3 hb2 (by omega) rfl rfl fun b3 first by_ hb3 f0 f1 hby => ?_
  obtain ⟨f, rfl⟩ : ∃ f : Nat, first = f := ⟨first.toNat, by omega⟩
  obtain ⟨bn, rfl, hbn⟩ : ∃ bn : Nat, by_ = bn ∧ bn ∈ [(1 : Nat), 3, 5, 7, 25, 675] := by
    simp only [List.mem_cons, List.not_mem_nil, or_false] at hby
    rcases hby with rfl | rfl | rfl | rfl | rfl | rfl
    · exact ⟨1, rfl, by simp⟩
    · exact ⟨3, rfl, by simp⟩
    · exact ⟨5, rfl, by simp⟩
    · exact ⟨7, rfl, by simp⟩
    · exact ⟨25, rfl, by simp⟩
    · exact ⟨675, rfl, by simp⟩
  refine names_4 hb3 (by omega) hm (by omega) rfl rfl rfl (fun zs b' x8 x9 x10 hb' hz => fin zs b' _ _ _ _ _ _ _ _ _ _ (hb'.mono (by omega)) hz) fun b4 hb4 => ?_
  refine names_5 hb4 (by omega) hm (by omega) hbn (fun zs b' hb' hz => fin zs b' _ _ _ _ _ _ _ _ _ _ (hb'.mono (by omega)) hz) fun b5 hb5 => ?_
  have last := names_678 (n := n) (D0 := endsF [Kd.io, Kd.fz] Q) (b := b5) (x8 := none) (x9 := none) (x10 := none) (x11 := none) (x12 := none) (x13 := none) hm hh ht (show f < 676 by omega) hbn rfl rfl rfl rfl (fun zs x10 x11 x12 x13 hz => fin zs b5 _ _ _ _ _ _ _ _ _ _ (hb5.mono (by omega)) hz)
  simp only [wSeq_eq] at last
  exact last
end K14
set_option Elab.async false
set_option linter.all false
set_option autoImplicit false
set_option maxRecDepth 100000
set_option maxHeartbeats 4000000
namespace K14
open PySem PySem.Spec PyProof.Rows L2 PL
local macro_rules
  | `(tactic| push_cast [$xs,*]) => `(tactic| simp -dsimp -implicitDefEqProofs only [$xs,*, ↓w2_eq, ↓wT_eq, ↓wChain_eq, ↓wTru_eq, ↓wAndV_eq, ↓wOrV_eq, ↓wNotV_eq, ↓wNeg_eq, ↓wPart_eq, ↓wSl_eq, ↓wN_eq, ↓wM_eq, ↓wMut_eq, ↓wTup_eq, ↓wLst_eq, ↓wCall_eq, ↓wGTup_eq, ↓wGCons_eq, ↓wGSub_eq, ↓wIsi_eq, ↓wIsi2_eq, ↓wIt_eq, ↓wRng1_eq, ↓wRng2_eq, ↓wLenSc_eq, ↓wIxSc_eq, ↓wPar_eq, ↓asgn_eq, ↓asgn_fz, ↓asgn_ow, ↓asgn_loc, ↓retR_fz, ↓retR_ow, ↓retR_loc, ↓wFor_eq, ↓wLc_eq, ↓wVar_eq, ↓wC_eq, ↓wNil_eq, ↓wCons_eq, ↓wAndT_eq, ↓wOrT_eq, ↓wNotT_eq, ↓wIfE_eq, ↓wNoPart_eq, ↓wYes_eq, ↓wNext_eq, ↓wBreak_eq, ↓wCont_eq, ↓wSeq_eq, ↓wDrop_eq, ↓wRet_eq, ↓wRetN_eq, ↓wIf_eq, ↓wAsg_eq, ↓wGNil_eq, ↓gOfB_eq, ↓endsF_nx, ↓endsF_rt, ↓bnd_some, ↓bnd_none, ↓ind_int, ↓tst_bool, ↓tsto_bool, ↓locR_loc, ↓tupR_tup, ↓cns_cons, ↓two_two, ↓ints1_int, ↓ints2_int, ↓g1_eq, ↓g2_eq, ↓gEq_eq, ↓gNe_eq, ↓gRepr_eq, ↓gIn_one, ↓gIs_bb, ↓gIs_none, ↓gIn_list, ↓gIn_tuple, ↓gSl_list, ↓gSl_tuple, ↓gSl_str, ↓gIx_list, ↓gIx_tuple, ↓gIx_str, ↓gSetL_eq, ↓gSum_eq, ↓gBools_eq, ↓gJoin_eq, ↓gAdd.eq_1, ↓gAdd.eq_2, ↓gAdd.eq_3, ↓gAdd.eq_4, ↓PL.gSub.eq_1, ↓gMod.eq_1, ↓gDiv.eq_1, ↓gPow.eq_1, ↓gMul.eq_1, ↓gMul.eq_2, ↓gMul.eq_3, ↓gCmp.eq_1, ↓gCmp.eq_2, ↓gLen.eq_1, ↓gLen.eq_2, ↓gLen.eq_3, ↓gAbs.eq_1, ↓gInt.eq_1, ↓gInt.eq_2, ↓gI2.eq_1, ↓gTup1.eq_1, ↓gTup1.eq_2, ↓gLst1.eq_1, ↓gLst1.eq_2, ↓gAppend.eq_1, ↓gCount.eq_1, ↓gUpper.eq_1, ↓wGet1_eq, ↓wGet2_eq, ↓wNewK_eq, ↓wNewT_eq, ↓wTupO_eq, ↓wCallR_eq, ↓wParN_eq, ↓wPar3_eq, ↓wGTupL_eq, ↓wDisp1_eq, ↓wForK_eq, ↓gPopAt_0, ↓gStr_l, ↓gStr_t, ↓gLenA_l, ↓gLenA_t, ↓gLenA_s, ↓gLenA_d, ↓gMulT_eq, ↓gLtP_t, ↓gLtP_i, ↓gLtP_s, ↓asgnAll_nil, ↓asgnAll_cons, ↓wGSubT_eq, ↓wZip_eq, ↓gIxA_list, ↓gIxA_tuple, ↓gIxA_str, ↓gIxA_dict, ↓gInA_list, ↓gInA_tuple, ↓gInA_str, ↓gInA_dict, ↓gSetD_dict, ↓gDict1_tuple, ↓gDict1_list, ↓gReverse_list, ↓gExtend_list, ↓gLst2_list, ↓gLst2_tuple, ↓gLst2_dict, ↓gLst3_str, ↓gLst3_list, ↓gLst3_tuple, ↓gLst3_dict, ↓wRngDn_eq, ↓ints3_eq, ↓fzd_fz, ↓dcO_dict, ↓wIc_eq, ↓wItB_eq, ↓lstO_list, isK, fzO_list, fzO_dict, fzO_ts, fzO_ti, fzO_tl, eqv_int, eqv_str, eqv_bool, eqv_ns, eqv_sn, eqv_nn, eqv_ni, eqv_in, eqv_si, eqv_is, eqOk_int, eqOk_str, eqOk_bool, eqOk_ns, eqOk_sn, eqOk_nn, eqOk_ni, eqOk_in, eqOk_si, eqOk_is, beq_iff_eq, ixN_0, ixN_1, ixN_2, ixN_3, ixN_4, ixN_5, ixN_6, ixN_7, atI_0, atI_1, atI_2, atI_3, atI_4, atI_5, atI_6, atI_7, rVar, lookAll, ownAt?, look, frz, frzAll, Out.res, okSlot_eq, okO_some, okS_fz, okS_ow, okS_sc, okS_none, wipeE, restE, prep, back, lent, lentOk, outsOf, outsFrom, argE, Res.good, isTy, tyN, noDict, itD, scAt, owA, fixR, isL, isS, seqOf, truth, truOk, okF, nt, unp, unpL, dkAt, lookR, lookRs, okR, isScal, dicAt, dicOf, fixRs, keyT, List.getElem?_cons_zero, List.getElem?_cons_succ, List.set_cons_zero, List.set_cons_succ, List.replicate_zero, List.replicate_succ, List.cons_append, List.nil_append, List.append_nil, Option.some.injEq, Prod.mk.injEq, PyData.int.injEq, PyData.list.injEq, PyData.str.injEq, PyData.bool.injEq, PyData.tuple.injEq, Res.loc.injEq, Res.fz.injEq, Res.ow.injEq, and_true, true_and, List.length_cons, List.length_nil, if_true, if_false, reduceIte, Bool.false_eq_true, Option.map_some, List.cons.injEq, List.mem_cons, List.not_mem_nil, or_false, forall_eq, forall_eq_or_imp, not_true_eq_false, not_false_eq_true, Bool.not_true, Bool.not_false, forall_const, List.nodup_nil, List.nodup_cons, Option.isSome_some, Option.isSome_none, Option.map_none, Option.bind_some, Option.bind_none, decide_eq_true_eq, Nat.reduceLeDiff, Nat.reduceAdd, Nat.zero_add, exists_eq', Int.reduceLT, Int.reduceLE, Int.reduceNeg, Int.reducePow, Nat.reducePow, Int.reduceToNat, Int.reduceAdd, Int.reduceMul, Nat.reduceMul, Nat.reduceEqDiff, Nat.reduceSub, String.reduceBEq, beq_self_eq_true, Bool.and_true, Bool.true_and, Bool.or_true, Bool.true_or, Bool.or_false, Bool.false_or, Bool.and_false, Bool.false_and, Bool.not_eq_true, Bool.not_eq_false, reduceCtorEq])
  | `(tactic| push_cast) => `(tactic| simp -dsimp -implicitDefEqProofs only [↓w2_eq, ↓wT_eq, ↓wChain_eq, ↓wTru_eq, ↓wAndV_eq, ↓wOrV_eq, ↓wNotV_eq, ↓wNeg_eq, ↓wPart_eq, ↓wSl_eq, ↓wN_eq, ↓wM_eq, ↓wMut_eq, ↓wTup_eq, ↓wLst_eq, ↓wCall_eq, ↓wGTup_eq, ↓wGCons_eq, ↓wGSub_eq, ↓wIsi_eq, ↓wIsi2_eq, ↓wIt_eq, ↓wRng1_eq, ↓wRng2_eq, ↓wLenSc_eq, ↓wIxSc_eq, ↓wPar_eq, ↓asgn_eq, ↓asgn_fz, ↓asgn_ow, ↓asgn_loc, ↓retR_fz, ↓retR_ow, ↓retR_loc, ↓wFor_eq, ↓wLc_eq, ↓wVar_eq, ↓wC_eq, ↓wNil_eq, ↓wCons_eq, ↓wAndT_eq, ↓wOrT_eq, ↓wNotT_eq, ↓wIfE_eq, ↓wNoPart_eq, ↓wYes_eq, ↓wNext_eq, ↓wBreak_eq, ↓wCont_eq, ↓wSeq_eq, ↓wDrop_eq, ↓wRet_eq, ↓wRetN_eq, ↓wIf_eq, ↓wAsg_eq, ↓wGNil_eq, ↓gOfB_eq, ↓endsF_nx, ↓endsF_rt, ↓bnd_some, ↓bnd_none, ↓ind_int, ↓tst_bool, ↓tsto_bool, ↓locR_loc, ↓tupR_tup, ↓cns_cons, ↓two_two, ↓ints1_int, ↓ints2_int, ↓g1_eq, ↓g2_eq, ↓gEq_eq, ↓gNe_eq, ↓gRepr_eq, ↓gIn_one, ↓gIs_bb, ↓gIs_none, ↓gIn_list, ↓gIn_tuple, ↓gSl_list, ↓gSl_tuple, ↓gSl_str, ↓gIx_list, ↓gIx_tuple, ↓gIx_str, ↓gSetL_eq, ↓gSum_eq, ↓gBools_eq, ↓gJoin_eq, ↓gAdd.eq_1, ↓gAdd.eq_2, ↓gAdd.eq_3, ↓gAdd.eq_4, ↓PL.gSub.eq_1, ↓gMod.eq_1, ↓gDiv.eq_1, ↓gPow.eq_1, ↓gMul.eq_1, ↓gMul.eq_2, ↓gMul.eq_3, ↓gCmp.eq_1, ↓gCmp.eq_2, ↓gLen.eq_1, ↓gLen.eq_2, ↓gLen.eq_3, ↓gAbs.eq_1, ↓gInt.eq_1, ↓gInt.eq_2, ↓gI2.eq_1, ↓gTup1.eq_1, ↓gTup1.eq_2, ↓gLst1.eq_1, ↓gLst1.eq_2, ↓gAppend.eq_1, ↓gCount.eq_1, ↓gUpper.eq_1, ↓wGet1_eq, ↓wGet2_eq, ↓wNewK_eq, ↓wNewT_eq, ↓wTupO_eq, ↓wCallR_eq, ↓wParN_eq, ↓wPar3_eq, ↓wGTupL_eq, ↓wDisp1_eq, ↓wForK_eq, ↓gPopAt_0, ↓gStr_l, ↓gStr_t, ↓gLenA_l, ↓gLenA_t, ↓gLenA_s, ↓gLenA_d, ↓gMulT_eq, ↓gLtP_t, ↓gLtP_i, ↓gLtP_s, ↓asgnAll_nil, ↓asgnAll_cons, ↓wGSubT_eq, ↓wZip_eq, ↓gIxA_list, ↓gIxA_tuple, ↓gIxA_str, ↓gIxA_dict, ↓gInA_list, ↓gInA_tuple, ↓gInA_str, ↓gInA_dict, ↓gSetD_dict, ↓gDict1_tuple, ↓gDict1_list, ↓gReverse_list, ↓gExtend_list, ↓gLst2_list, ↓gLst2_tuple, ↓gLst2_dict, ↓gLst3_str, ↓gLst3_list, ↓gLst3_tuple, ↓gLst3_dict, ↓wRngDn_eq, ↓ints3_eq, ↓fzd_fz, ↓dcO_dict, ↓wIc_eq, ↓wItB_eq, ↓lstO_list, isK, fzO_list, fzO_dict, fzO_ts, fzO_ti, fzO_tl, eqv_int, eqv_str, eqv_bool, eqv_ns, eqv_sn, eqv_nn, eqv_ni, eqv_in, eqv_si, eqv_is, eqOk_int, eqOk_str, eqOk_bool, eqOk_ns, eqOk_sn, eqOk_nn, eqOk_ni, eqOk_in, eqOk_si, eqOk_is, beq_iff_eq, ixN_0, ixN_1, ixN_2, ixN_3, ixN_4, ixN_5, ixN_6, ixN_7, atI_0, atI_1, atI_2, atI_3, atI_4, atI_5, atI_6, atI_7, rVar, lookAll, ownAt?, look, frz, frzAll, Out.res, okSlot_eq, okO_some, okS_fz, okS_ow, okS_sc, okS_none, wipeE, restE, prep, back, lent, lentOk, outsOf, outsFrom, argE, Res.good, isTy, tyN, noDict, itD, scAt, owA, fixR, isL, isS, seqOf, truth, truOk, okF, nt, unp, unpL, dkAt, lookR, lookRs, okR, isScal, dicAt, dicOf, fixRs, keyT, List.getElem?_cons_zero, List.getElem?_cons_succ, List.set_cons_zero, List.set_cons_succ, List.replicate_zero, List.replicate_succ, List.cons_append, List.nil_append, List.append_nil, Option.some.injEq, Prod.mk.injEq, PyData.int.injEq, PyData.list.injEq, PyData.str.injEq, PyData.bool.injEq, PyData.tuple.injEq, Res.loc.injEq, Res.fz.injEq, Res.ow.injEq, and_true, true_and, List.length_cons, List.length_nil, if_true, if_false, reduceIte, Bool.false_eq_true, Option.map_some, List.cons.injEq, List.mem_cons, List.not_mem_nil, or_false, forall_eq, forall_eq_or_imp, not_true_eq_false, not_false_eq_true, Bool.not_true, Bool.not_false, forall_const, List.nodup_nil, List.nodup_cons, Option.isSome_some, Option.isSome_none, Option.map_none, Option.bind_some, Option.bind_none, decide_eq_true_eq, Nat.reduceLeDiff, Nat.reduceAdd, Nat.zero_add, exists_eq', Int.reduceLT, Int.reduceLE, Int.reduceNeg, Int.reducePow, Nat.reducePow, Int.reduceToNat, Int.reduceAdd, Int.reduceMul, Nat.reduceMul, Nat.reduceEqDiff, Nat.reduceSub, String.reduceBEq, beq_self_eq_true, Bool.and_true, Bool.true_and, Bool.or_true, Bool.true_or, Bool.or_false, Bool.false_or, Bool.and_false, Bool.false_and, Bool.not_eq_true, Bool.not_eq_false, reduceCtorEq])
theorem perm_erase {α : Type} {xs : List α} {k : Nat} {a : α} (h : xs[k]? = some a) : (a :: xs.eraseIdx k).Perm xs := by
  induction xs generalizing k with
  | nil => simp at h
  | cons x xs ih =>
    cases k with
    | zero =>
      simp at h
      subst h
      simp
    | succ k =>
      simp at h
      have := ih h
      rw [List.eraseIdx_cons_succ]
      exact (List.Perm.swap x a _).trans (this.cons x)
theorem shuffled_ok {n w : Nat} {b : D} {ds : List D} {Q : Res → List D → Prop} (hb : LBox n b) (hn : n ≤ 800000) (hl : ds.length ≤ 1000) (hd : ∀ d ∈ ds, Lay 0 w d)
    (hQ : ∀ b' es o, LBox (n + ds.length) b' → es.Perm ds → o.length = 1 → Q (.ow (.list es)) (b' :: o)) : g__law_shuffled [b, .list ds] Q := by
  push_cast [g__law_shuffled, w__law_shuffled, w__law_shuffled_0, w__law_shuffled_1]
  refine while_inv (fun m e => ∃ b' rs fs, e = [some (.io, b'), some (.fz, .list ds), some (.ow, .list rs), some (.ow, .list fs)] ∧ m = rs.length ∧ (fs ++ rs).Perm ds ∧ LBox (n + fs.length) b') ds.length ⟨b, ds, [], rfl, rfl, List.Perm.refl _, hb⟩ fun m e hi => ?_
  obtain ⟨b', rs, fs, rfl, rfl, hp, hb'⟩ := hi
  have hlen := hp.length_eq
  rw [List.length_append] at hlen
  have hrs : ∀ d ∈ rs, Lay 0 w d := fun d h => hd d (hp.mem_iff.mp (List.mem_append_right _ h))
  have s0 : SeqAt.shaped (.list []) = true := rfl
  have sr : SeqAt.shaped (.list rs) = true := (LayAll.all (k := 0) (w := w) hrs).list.shaped (by decide)
  cases rs with
  | nil =>
    push_cast [eqv_nil, w__law_shuffled_2]
    refine ⟨⟨s0, s0⟩, ?_⟩
    rw [List.append_nil] at hp
    exact hQ b' fs _ (hb'.mono (by simp at hlen; omega)) hp rfl
  | cons x rs =>
    rw [List.length_cons] at hlen
    push_cast [eqv_cons_nil]
    refine ⟨⟨sr, s0⟩, fun e' => ∃ m', m' < (x :: rs).length ∧ _, fun _ h => h, ?_⟩
    push_cast [b__law_shuffled_1]
    refine callT_of (pick_ok hb' (by omega) (by omega) (by omega) fun r b1 hb1 r0 r1 _ _ => ?_)
    obtain ⟨k, rfl⟩ : ∃ k : Nat, r = k := ⟨r.toNat, by omega⟩
    have hk : k < (x :: rs).length := by rw [List.length_cons]; omega
    have hg : (x :: rs)[k]? = some (x :: rs)[k] := List.getElem?_eq_getElem hk
    have hpe := perm_erase hg
    have hel : ((x :: rs).eraseIdx k).length = rs.length := by rw [List.length_eraseIdx, if_pos hk]; rfl
    generalize (x :: rs)[k] = y at hg hpe
    generalize hE : (x :: rs).eraseIdx k = E at hpe hel
    push_cast
    refine ⟨k, y, ⟨by omega, by omega⟩, by omega, hg, ?_⟩
    rw [hE]
    push_cast
    refine ⟨by omega, E.length, by rw [hel]; omega, b1, E, fs ++ [y], ⟨rfl, rfl, rfl⟩, rfl, ?_, hb1.mono (by rw [List.length_append]; simp; omega)⟩
    rw [List.append_assoc]
    exact (hpe.append_left fs).trans hp
end K14
set_option Elab.async false
set_option linter.all false
set_option autoImplicit false
set_option maxRecDepth 100000
set_option maxHeartbeats 4000000
namespace K14
open PySem PySem.Spec PyProof.Rows L2 PL
local macro_rules
  | `(tactic| push_cast [$xs,*]) => `(tactic| simp -dsimp -implicitDefEqProofs only [$xs,*, ↓w2_eq, ↓wT_eq, ↓wChain_eq, ↓wTru_eq, ↓wAndV_eq, ↓wOrV_eq, ↓wNotV_eq, ↓wNeg_eq, ↓wPart_eq, ↓wSl_eq, ↓wN_eq, ↓wM_eq, ↓wMut_eq, ↓wTup_eq, ↓wLst_eq, ↓wCall_eq, ↓wGTup_eq, ↓wGCons_eq, ↓wGSub_eq, ↓wIsi_eq, ↓wIsi2_eq, ↓wIt_eq, ↓wRng1_eq, ↓wRng2_eq, ↓wLenSc_eq, ↓wIxSc_eq, ↓wPar_eq, ↓asgn_eq, ↓asgn_fz, ↓asgn_ow, ↓asgn_loc, ↓retR_fz, ↓retR_ow, ↓retR_loc, ↓wFor_eq, ↓wLc_eq, ↓wVar_eq, ↓wC_eq, ↓wNil_eq, ↓wCons_eq, ↓wAndT_eq, ↓wOrT_eq, ↓wNotT_eq, ↓wIfE_eq, ↓wNoPart_eq, ↓wYes_eq, ↓wNext_eq, ↓wBreak_eq, ↓wCont_eq, ↓wSeq_eq, ↓wDrop_eq, ↓wRet_eq, ↓wRetN_eq, ↓wIf_eq, ↓wAsg_eq, ↓wGNil_eq, ↓gOfB_eq, ↓endsF_nx, ↓endsF_rt, ↓bnd_some, ↓bnd_none, ↓ind_int, ↓tst_bool, ↓tsto_bool, ↓locR_loc, ↓tupR_tup, ↓cns_cons, ↓two_two, ↓ints1_int, ↓ints2_int, ↓g1_eq, ↓g2_eq, ↓gEq_eq, ↓gNe_eq, ↓gRepr_eq, ↓gIn_one, ↓gIs_bb, ↓gIs_none, ↓gIn_list, ↓gIn_tuple, ↓gSl_list, ↓gSl_tuple, ↓gSl_str, ↓gIx_list, ↓gIx_tuple, ↓gIx_str, ↓gSetL_eq, ↓gSum_eq, ↓gBools_eq, ↓gJoin_eq, ↓gAdd.eq_1, ↓gAdd.eq_2, ↓gAdd.eq_3, ↓gAdd.eq_4, ↓PL.gSub.eq_1, ↓gMod.eq_1, ↓gDiv.eq_1, ↓gPow.eq_1, ↓gMul.eq_1, ↓gMul.eq_2, ↓gMul.eq_3, ↓gCmp.eq_1, ↓gCmp.eq_2, ↓gLen.eq_1, ↓gLen.eq_2, ↓gLen.eq_3, ↓gAbs.eq_1, ↓gInt.eq_1, ↓gInt.eq_2, ↓gI2.eq_1, ↓gTup1.eq_1, ↓gTup1.eq_2, ↓gLst1.eq_1, ↓gLst1.eq_2, ↓gAppend.eq_1, ↓gCount.eq_1, ↓gUpper.eq_1, ↓wGet1_eq, ↓wGet2_eq, ↓wNewK_eq, ↓wNewT_eq, ↓wTupO_eq, ↓wCallR_eq, ↓wParN_eq, ↓wPar3_eq, ↓wGTupL_eq, ↓wDisp1_eq, ↓wForK_eq, ↓gPopAt_0, ↓gStr_l, ↓gStr_t, ↓gLenA_l, ↓gLenA_t, ↓gLenA_s, ↓gLenA_d, ↓gMulT_eq, ↓gLtP_t, ↓gLtP_i, ↓gLtP_s, ↓asgnAll_nil, ↓asgnAll_cons, ↓wGSubT_eq, ↓wZip_eq, ↓gIxA_list, ↓gIxA_tuple, ↓gIxA_str, ↓gIxA_dict, ↓gInA_list, ↓gInA_tuple, ↓gInA_str, ↓gInA_dict, ↓gSetD_dict, ↓gDict1_tuple, ↓gDict1_list, ↓gReverse_list, ↓gExtend_list, ↓gLst2_list, ↓gLst2_tuple, ↓gLst2_dict, ↓gLst3_str, ↓gLst3_list, ↓gLst3_tuple, ↓gLst3_dict, ↓wRngDn_eq, ↓ints3_eq, ↓fzd_fz, ↓dcO_dict, ↓wIc_eq, ↓wItB_eq, ↓lstO_list, isK, fzO_list, fzO_dict, fzO_ts, fzO_ti, fzO_tl, eqv_int, eqv_str, eqv_bool, eqv_ns, eqv_sn, eqv_nn, eqv_ni, eqv_in, eqv_si, eqv_is, eqOk_int, eqOk_str, eqOk_bool, eqOk_ns, eqOk_sn, eqOk_nn, eqOk_ni, eqOk_in, eqOk_si, eqOk_is, beq_iff_eq, ixN_0, ixN_1, ixN_2, ixN_3, ixN_4, ixN_5, ixN_6, ixN_7, atI_0, atI_1, atI_2, atI_3, atI_4, atI_5, atI_6, atI_7, rVar, lookAll, ownAt?, look, frz, frzAll, Out.res, okSlot_eq, okO_some, okS_fz, okS_ow, okS_sc, okS_none, wipeE, restE, prep, back, lent, lentOk, outsOf, outsFrom, argE, Res.good, isTy, tyN, noDict, itD, scAt, owA, fixR, isL, isS, seqOf, truth, truOk, okF, nt, unp, unpL, dkAt, lookR, lookRs, okR, isScal, dicAt, dicOf, fixRs, keyT, List.getElem?_cons_zero, List.getElem?_cons_succ, List.set_cons_zero, List.set_cons_succ, List.replicate_zero, List.replicate_succ, List.cons_append, List.nil_append, List.append_nil, Option.some.injEq, Prod.mk.injEq, PyData.int.injEq, PyData.list.injEq, PyData.str.injEq, PyData.bool.injEq, PyData.tuple.injEq, Res.loc.injEq, Res.fz.injEq, Res.ow.injEq, and_true, true_and, List.length_cons, List.length_nil, if_true, if_false, reduceIte, Bool.false_eq_true, Option.map_some, List.cons.injEq, List.mem_cons, List.not_mem_nil, or_false, forall_eq, forall_eq_or_imp, not_true_eq_false, not_false_eq_true, Bool.not_true, Bool.not_false, forall_const, List.nodup_nil, List.nodup_cons, Option.isSome_some, Option.isSome_none, Option.map_none, Option.bind_some, Option.bind_none, decide_eq_true_eq, Nat.reduceLeDiff, Nat.reduceAdd, Nat.zero_add, exists_eq', Int.reduceLT, Int.reduceLE, Int.reduceNeg, Int.reducePow, Nat.reducePow, Int.reduceToNat, Int.reduceAdd, Int.reduceMul, Nat.reduceMul, Nat.reduceEqDiff, Nat.reduceSub, String.reduceBEq, beq_self_eq_true, Bool.and_true, Bool.true_and, Bool.or_true, Bool.true_or, Bool.or_false, Bool.false_or, Bool.and_false, Bool.false_and, Bool.not_eq_true, Bool.not_eq_false, reduceCtorEq])
  | `(tactic| push_cast) => `(tactic| simp -dsimp -implicitDefEqProofs only [↓w2_eq, ↓wT_eq, ↓wChain_eq, ↓wTru_eq, ↓wAndV_eq, ↓wOrV_eq, ↓wNotV_eq, ↓wNeg_eq, ↓wPart_eq, ↓wSl_eq, ↓wN_eq, ↓wM_eq, ↓wMut_eq, ↓wTup_eq, ↓wLst_eq, ↓wCall_eq, ↓wGTup_eq, ↓wGCons_eq, ↓wGSub_eq, ↓wIsi_eq, ↓wIsi2_eq, ↓wIt_eq, ↓wRng1_eq, ↓wRng2_eq, ↓wLenSc_eq, ↓wIxSc_eq, ↓wPar_eq, ↓asgn_eq, ↓asgn_fz, ↓asgn_ow, ↓asgn_loc, ↓retR_fz, ↓retR_ow, ↓retR_loc, ↓wFor_eq, ↓wLc_eq, ↓wVar_eq, ↓wC_eq, ↓wNil_eq, ↓wCons_eq, ↓wAndT_eq, ↓wOrT_eq, ↓wNotT_eq, ↓wIfE_eq, ↓wNoPart_eq, ↓wYes_eq, ↓wNext_eq, ↓wBreak_eq, ↓wCont_eq, ↓wSeq_eq, ↓wDrop_eq, ↓wRet_eq, ↓wRetN_eq, ↓wIf_eq, ↓wAsg_eq, ↓wGNil_eq, ↓gOfB_eq, ↓endsF_nx, ↓endsF_rt, ↓bnd_some, ↓bnd_none, ↓ind_int, ↓tst_bool, ↓tsto_bool, ↓locR_loc, ↓tupR_tup, ↓cns_cons, ↓two_two, ↓ints1_int, ↓ints2_int, ↓g1_eq, ↓g2_eq, ↓gEq_eq, ↓gNe_eq, ↓gRepr_eq, ↓gIn_one, ↓gIs_bb, ↓gIs_none, ↓gIn_list, ↓gIn_tuple, ↓gSl_list, ↓gSl_tuple, ↓gSl_str, ↓gIx_list, ↓gIx_tuple, ↓gIx_str, ↓gSetL_eq, ↓gSum_eq, ↓gBools_eq, ↓gJoin_eq, ↓gAdd.eq_1, ↓gAdd.eq_2, ↓gAdd.eq_3, ↓gAdd.eq_4, ↓PL.gSub.eq_1, ↓gMod.eq_1, ↓gDiv.eq_1, ↓gPow.eq_1, ↓gMul.eq_1, ↓gMul.eq_2, ↓gMul.eq_3, ↓gCmp.eq_1, ↓gCmp.eq_2, ↓gLen.eq_1, ↓gLen.eq_2, ↓gLen.eq_3, ↓gAbs.eq_1, ↓gInt.eq_1, ↓gInt.eq_2, ↓gI2.eq_1, ↓gTup1.eq_1, ↓gTup1.eq_2, ↓gLst1.eq_1, ↓gLst1.eq_2, ↓gAppend.eq_1, ↓gCount.eq_1, ↓gUpper.eq_1, ↓wGet1_eq, ↓wGet2_eq, ↓wNewK_eq, ↓wNewT_eq, ↓wTupO_eq, ↓wCallR_eq, ↓wParN_eq, ↓wPar3_eq, ↓wGTupL_eq, ↓wDisp1_eq, ↓wForK_eq, ↓gPopAt_0, ↓gStr_l, ↓gStr_t, ↓gLenA_l, ↓gLenA_t, ↓gLenA_s, ↓gLenA_d, ↓gMulT_eq, ↓gLtP_t, ↓gLtP_i, ↓gLtP_s, ↓asgnAll_nil, ↓asgnAll_cons, ↓wGSubT_eq, ↓wZip_eq, ↓gIxA_list, ↓gIxA_tuple, ↓gIxA_str, ↓gIxA_dict, ↓gInA_list, ↓gInA_tuple, ↓gInA_str, ↓gInA_dict, ↓gSetD_dict, ↓gDict1_tuple, ↓gDict1_list, ↓gReverse_list, ↓gExtend_list, ↓gLst2_list, ↓gLst2_tuple, ↓gLst2_dict, ↓gLst3_str, ↓gLst3_list, ↓gLst3_tuple, ↓gLst3_dict, ↓wRngDn_eq, ↓ints3_eq, ↓fzd_fz, ↓dcO_dict, ↓wIc_eq, ↓wItB_eq, ↓lstO_list, isK, fzO_list, fzO_dict, fzO_ts, fzO_ti, fzO_tl, eqv_int, eqv_str, eqv_bool, eqv_ns, eqv_sn, eqv_nn, eqv_ni, eqv_in, eqv_si, eqv_is, eqOk_int, eqOk_str, eqOk_bool, eqOk_ns, eqOk_sn, eqOk_nn, eqOk_ni, eqOk_in, eqOk_si, eqOk_is, beq_iff_eq, ixN_0, ixN_1, ixN_2, ixN_3, ixN_4, ixN_5, ixN_6, ixN_7, atI_0, atI_1, atI_2, atI_3, atI_4, atI_5, atI_6, atI_7, rVar, lookAll, ownAt?, look, frz, frzAll, Out.res, okSlot_eq, okO_some, okS_fz, okS_ow, okS_sc, okS_none, wipeE, restE, prep, back, lent, lentOk, outsOf, outsFrom, argE, Res.good, isTy, tyN, noDict, itD, scAt, owA, fixR, isL, isS, seqOf, truth, truOk, okF, nt, unp, unpL, dkAt, lookR, lookRs, okR, isScal, dicAt, dicOf, fixRs, keyT, List.getElem?_cons_zero, List.getElem?_cons_succ, List.set_cons_zero, List.set_cons_succ, List.replicate_zero, List.replicate_succ, List.cons_append, List.nil_append, List.append_nil, Option.some.injEq, Prod.mk.injEq, PyData.int.injEq, PyData.list.injEq, PyData.str.injEq, PyData.bool.injEq, PyData.tuple.injEq, Res.loc.injEq, Res.fz.injEq, Res.ow.injEq, and_true, true_and, List.length_cons, List.length_nil, if_true, if_false, reduceIte, Bool.false_eq_true, Option.map_some, List.cons.injEq, List.mem_cons, List.not_mem_nil, or_false, forall_eq, forall_eq_or_imp, not_true_eq_false, not_false_eq_true, Bool.not_true, Bool.not_false, forall_const, List.nodup_nil, List.nodup_cons, Option.isSome_some, Option.isSome_none, Option.map_none, Option.bind_some, Option.bind_none, decide_eq_true_eq, Nat.reduceLeDiff, Nat.reduceAdd, Nat.zero_add, exists_eq', Int.reduceLT, Int.reduceLE, Int.reduceNeg, Int.reducePow, Nat.reducePow, Int.reduceToNat, Int.reduceAdd, Int.reduceMul, Nat.reduceMul, Nat.reduceEqDiff, Nat.reduceSub, String.reduceBEq, beq_self_eq_true, Bool.and_true, Bool.true_and, Bool.or_true, Bool.true_or, Bool.or_false, Bool.false_or, Bool.and_false, Bool.false_and, Bool.not_eq_true, Bool.not_eq_false, reduceCtorEq])
theorem steps_up {sides ov : List Str} {tot day : Int} {ls : List Lv} (h : ls.Pairwise fun a b => a.num < b.num) : (stepsF sides ov tot day ls).Pairwise fun a b => a.num < b.num := (h.filter _).filter _
theorem steps_iff {sides ov : List Str} {tot day : Int} {ls : List Lv} {l : Lv} : l ∈ stepsF sides ov tot day ls ↔ l ∈ ls ∧ letsF sides ov tot day l = true := by
  simp only [stepsF, letsF, List.mem_filter, Bool.and_eq_true, and_assoc]
theorem at_zs {zs : List Str} {i : Nat} {z : Str} (h : zs[i]? = some z) : atI (zs.map PyData.str) (i : Int) = some (.str z) := by
  obtain ⟨q1, q2⟩ := List.getElem?_eq_some_iff.mp h
  have hl : (i : Int) < ((zs.map PyData.str).length : Nat) := by rw [List.length_map]; omega
  rw [atI_lt (by omega) hl]
  simp [q2]
theorem cutMid {ds : List D} {i j : Nat} (h : i ≤ j) (h2 : j ≤ ds.length) : PL.cutD ds (some (i : Int)) (some (j : Int)) = (ds.drop i).take (j - i) := by
  unfold PL.cutD
  rw [HT.sIx_nat, HT.sIx_nat, Nat.min_eq_left h2, Nat.min_eq_left (Nat.le_trans h h2)]
abbrev pD4 (part : Str) (tot : Int) (s1 s2 : Str) : D := .tuple (.str part :: .int tot :: [s1, s2].map .str)
theorem PsL.root {zs : List Str} {ps : List (Str × Str)} (h : PsL zs ps) (nm : ∀ z ∈ zs, NmOk z) (nd : zs.Nodup) : Rooted ps ∧ (∀ p ∈ ps, NmOk p.1 ∧ TOk 8 p.2) := by
  have hf : ∀ p ∈ ps, NmOk p.1 := fun p hp => nm _ (by
    have : p.1 ∈ ps.map Prod.fst := List.mem_map.mpr ⟨p, hp, rfl⟩
    rw [h.fst] at this
    exact this)
  refine ⟨⟨by rw [h.fst]; exact nd, fun i p hp => ?_⟩, fun p hp => ⟨hf p hp, ?_⟩⟩
  · rcases h.snd i p hp with h | h
    · left
      intro hm
      obtain ⟨q, hq, e⟩ := List.mem_map.mp hm
      exact (hf q hq).ne (e.trans h)
    · exact .inr h
  · obtain ⟨i, hi⟩ := List.getElem?_of_mem hp
    rcases h.snd i p hi with h | ⟨j, q, _, h2, h3⟩
    · rw [h]; exact tok_empty.mono (by omega)
    · rw [h3]; exact (hf q (List.mem_of_getElem? h2)).tok
/-- what is drawn ahead of the leaves -/
structure Cz (zs p : List Str) (ps : List (Str × Str)) (part s1 s2 q : Str) (day : Int) : Prop where
  zl : zs.length = 30
  z29 : zs[29]? = some q
  root : Rooted ps
  pl : 1 ≤ ps.length ∧ ps.length ≤ 8
  pt : ∀ p ∈ ps, NmOk p.1 ∧ TOk 8 p.2
  nd : p.Nodup
  nm : ∀ z ∈ p, NmOk z
  len : 2 ≤ p.length ∧ p.length ≤ 17
  part : part ∈ ps.map Prod.fst
  qn : NmOk q
  n1 : ∀ z ∈ p, z ∉ [s1, s2]
  n2 : q ∉ [s1, s2]
  n3 : q ∉ p
  day : 5 ≤ day ∧ day ≤ 9
abbrev eZ (b : D) (zs p : List Str) (k3 : Kd) (ps : List (Str × Str)) (part s1 s2 : Str) (day : Int) (k8 : Kd) (ns : List Int) (x9 x10 x11 x12 x13 x14 x15 x16 x17 x18 : Slot) : DEnv :=
  [some (.io, b), some (.ow, .list (zs.map .str)), some (.fz, .int p.length), some (k3, psD ps), some (.ow, .list (p.map .str)), some (.fz, .str part), some (.fz, pD4 part 70 s1 s2), some (.fz, .int day), some (k8, .list (ns.map .int)), x9, x10, x11, x12, x13, x14, x15, x16, x17, x18]
theorem right_0 {D0 : DEnds} {n : Nat} {b : D} {x11 x12 x13 x14 x15 x16 x17 x18 : Slot} (hb : LBox n b) (hn : n ≤ 500000)
    (hK : ∀ b' zs p ps part s1 s2 q day ns gap, LBox (n + 200) b' → Cz zs p ps part s1 s2 q day → ns.length + 1 = p.length → ns.Nodup → (∀ x ∈ ns, 0 ≤ x ∧ x ≤ 1000) → 0 ≤ gap → D0.nx (eZ b' zs p .ow ps part s1 s2 day .ow ns (some (.ow, .list [])) (some (.fz, .int gap)) x11 x12 x13 x14 x15 x16 x17 x18)) :
    wSeq w__law_row_right_0 (wSeq w__law_row_right_1 (wSeq w__law_row_right_2 (wSeq w__law_row_right_3 (wSeq w__law_row_right_4 w__law_row_right_5)))) D0 [some (.io, b), none, none, none, none, none, none, none, none, none, none, x11, x12, x13, x14, x15, x16, x17, x18] := by
  push_cast [w__law_row_right_0]
  refine callT_of (some_names_ok (m := 30) hb (by omega) (by decide) fun zs b1 hb1 hz _ _ => ?_)
  have hzl := hz.len
  push_cast
  refine callT_of (pick_ok hb1 (by omega) (by decide) (by decide) fun r b2 hb2 r0 r1 _ _ => ?_)
  obtain ⟨m, hm⟩ : ∃ m : Nat, 2 + r = m := ⟨(2 + r).toNat, by omega⟩
  have hm2 : 2 ≤ m ∧ m ≤ 17 := by omega
  push_cast [hm, w__law_row_right_1]
  refine callT_of (pick_ok hb2 (by omega) (by decide) (by decide) fun r b3 hb3 r0 r1 _ _ => ?_)
  obtain ⟨k, rfl⟩ : ∃ k : Nat, r = k := ⟨r.toNat, by omega⟩
  have hcut : PL.cutD (zs.map PyData.str) none (some (1 + (k : Int))) = (zs.take (k + 1)).map PyData.str := by
    have e : (1 : Int) + (k : Int) = ((k + 1 : Nat) : Int) := by omega
    rw [e, cutTo (by rw [List.length_map]; omega), List.map_take]
  push_cast [hcut]
  refine callT_of (some_parts_ok hb3 (by omega) (fun z h => hz.nm z (List.mem_of_mem_take h)) (hz.nd.sublist (List.take_sublist ..)) (by rw [List.length_take]; omega) fun ps b4 hb4 hps _ _ => ?_)
  have hpl : ps.length = k + 1 := by
    have := congrArg List.length hps.fst
    rw [List.length_map, List.length_take] at this
    omega
  obtain ⟨hroot, hpt⟩ := hps.root (fun z h => hz.nm z (List.mem_of_mem_take h)) (hz.nd.sublist (List.take_sublist ..))
  rw [List.length_take, hzl] at hb4
  have hcut2 : PL.cutD (zs.map PyData.str) (some 9) (some (9 + (m : Int))) = ((zs.drop 9).take m).map PyData.str := by
    have e : (9 : Int) + (m : Int) = ((m + 9 : Nat) : Int) := by omega
    have := cutMid (ds := zs.map PyData.str) (i := 9) (j := m + 9) (by omega) (by rw [List.length_map]; omega)
    rw [e]
    refine this.trans ?_
    rw [List.map_take, List.map_drop]
    congr 1
  have htd := isTd_map (fun p : Str × Str => p.1) (fun p => PyData.str p.2) ps
  push_cast [w__law_row_right_2, hcut2, psD, List.length_map]
  refine ⟨htd, callT_of (pick_ok hb4 (by omega) (by omega) (by omega) fun r5 b5 hb5 r50 r51 _ _ => ?_)⟩
  push_cast
  refine bnd_pickS (zs := zs) r50 (by omega) fun part hpart hpa => ?_
  obtain ⟨q, h29⟩ : ∃ N, zs[29]? = some N := ⟨zs[29], List.getElem?_eq_getElem (by omega)⟩
  obtain ⟨s1, h27⟩ : ∃ N, zs[27]? = some N := ⟨zs[27], List.getElem?_eq_getElem (by omega)⟩
  obtain ⟨s2, h28⟩ : ∃ N, zs[28]? = some N := ⟨zs[28], List.getElem?_eq_getElem (by omega)⟩
  have a27 : atI (zs.map PyData.str) 27 = some (.str s1) := at_zs h27
  have a28 : atI (zs.map PyData.str) 28 = some (.str s2) := at_zs h28
  push_cast [w__law_row_right_3, a27, a28]
  refine callT_of (pick_ok hb5 (by omega) (by decide) (by decide) fun r6 b6 hb6 r60 r61 _ _ => ?_)
  push_cast [w__law_row_right_4]
  refine callT_of (rising_ok hb6 (by omega) (by omega) (by omega) fun ns b7 hb7 hnl hnu hnx _ _ => ?_)
  push_cast [hcut2]
  refine callT_of (shuffled_ok (w := 40) hb7 (by omega) (by rw [List.length_map]; omega) (fun d hd => by
    obtain ⟨x, hx, rfl⟩ := List.mem_map.mp hd
    have := hnx x hx
    exact Lay.int (i := x) (by omega) (by omega)) fun b8 es o hb8 hperm hol _ _ => ?_)
  match o, hol with
  | [o1], _ =>
  obtain ⟨ns2, hpm, rfl⟩ := perm_map_exists hperm
  rw [List.length_map] at hb8
  have hl2 : ns2.length = ns.length := hpm.length_eq
  push_cast [hcut2, w__law_row_right_5]
  have hp1 : ((zs.drop 9).take m).length = m := by rw [List.length_take, List.length_drop]; omega
  have hp2 : ∀ z ∈ (zs.drop 9).take m, z ∈ zs := fun z h => List.mem_of_mem_drop (List.mem_of_mem_take h)
  have hp3 : ((zs.drop 9).take m).Nodup := hz.nd.sublist ((List.take_sublist ..).trans (List.drop_sublist ..))
  have hp4 : ∀ z ∈ (zs.drop 9).take m, ∃ i, i < 26 ∧ zs[i]? = some z := fun z h => by
    obtain ⟨j, hj⟩ := List.getElem?_of_mem h
    rw [List.getElem?_take] at hj
    split at hj
    · rw [List.getElem?_drop] at hj
      exact ⟨9 + j, by omega, hj⟩
    · cases hj
  have hne : ∀ (i j : Nat) (z y : Str), zs[i]? = some z → zs[j]? = some y → i ≠ j → z ≠ y := fun i j z y h1 h2 h3 e => by
    subst e
    exact h3 (nodup_inj hz.nd h1 h2)
  have hzn : ∀ (i : Nat) (z : Str), zs[i]? = some z → NmOk z := fun i z h => hz.nm z (List.mem_of_getElem? h)
  have cz : ∀ P : List Str, P = (zs.drop 9).take m → Cz zs P ps part s1 s2 q (5 + r6) := fun P hP => by
    subst hP
    refine ⟨hzl, h29, hroot, by omega, hpt, hp3, fun z h => hz.nm z (hp2 z h), by omega, ?_, hzn _ _ h29, fun z h => ?_, ?_, fun h => ?_, by omega, by omega⟩
    · rw [hps.fst]
      refine List.mem_of_getElem? (i := r5.toNat) ?_
      rw [List.getElem?_take, if_pos (by omega)]
      exact hpa
    · obtain ⟨i, hi, hzi⟩ := hp4 z h
      simp only [List.mem_cons, List.not_mem_nil, or_false]
      rintro (e | e)
      · exact hne i 27 _ _ hzi h27 (by omega) e
      · exact hne i 28 _ _ hzi h28 (by omega) e
    · simp only [List.mem_cons, List.not_mem_nil, or_false]
      rintro (e | e)
      · exact hne 29 27 _ _ h29 h27 (by omega) e
      · exact hne 29 28 _ _ h29 h28 (by omega) e
    · obtain ⟨i, hi, hzi⟩ := hp4 q h
      exact hne i 29 _ _ hzi h29 (by omega) rfl
  refine callT_of (pick_ok hb8 (by omega) (by decide) (by decide) fun r9 b9 hb9 r90 r91 _ _ => ?_)
  push_cast
  have hcz := cz _ rfl
  clear cz hp4 hp2 hp3 hcut2
  generalize hP : List.take m (List.drop 9 zs) = P at hp1 hcz ⊢
  subst hp1
  split
  · refine callT_of (pick_ok hb9 (by omega) (by omega) (by omega) fun r10 b10 hb10 r100 r101 _ _ => ?_)
    push_cast
    exact hK b10 zs P ps part s1 s2 q (5 + r6) ns2 r10 (hb10.mono (by omega)) hcz (by omega) (hpm.nodup_iff.mpr (lt_nodup hnu)) (fun x hx => hnx x (hpm.mem_iff.mp hx)) r100
  · exact hK b9 zs P ps part s1 s2 q (5 + r6) ns2 P.length (hb9.mono (by omega)) hcz (by omega) (hpm.nodup_iff.mpr (lt_nodup hnu)) (fun x hx => hnx x (hpm.mem_iff.mp hx)) (by omega)
/-- the leaves gone so far -/
structure Gn (p : List Str) (pn ov : List Str) (s1 s2 : Str) (day gap : Int) (ns : List Int) (ls : List Lv) : Prop where
  nums : ls.map Lv.num = ns.take ls.length
  at_ : ∀ (k : Nat) (l : Lv), ls[k]? = some l → p[k]? = some l.giver ∧ p[k + 1]? = some l.taker ∧ letsF [s1, s2] ov 70 day l = decide ((k : Int) ≠ gap) ∧ TOk 8 l.part
theorem right_b1 {D0 : DEnds} {n : Nat} {b : D} {zs p : List Str} {k3 : Kd} {ps : List (Str × Str)} {part s1 s2 q : Str} {day gap : Int} {ns : List Int} {ls : List Lv} {x12 x13 x14 x15 x16 x17 x18 : Slot} (C : Cz zs p ps part s1 s2 q day) (hb : LBox n b) (hn : n ≤ 600000) (hk3 : k3 = .ow ∨ k3 = .fz) (hnl : ns.length + 1 = p.length) (hx : ∀ x ∈ ns, 0 ≤ x ∧ x ≤ 1000) (g : Gn p (ps.map Prod.fst) (over ps part) s1 s2 day gap ns ls) (hlt : ls.length < ns.length) (o12 : okS x12 = true) (o13 : okS x13 = true) (o14 : okS x14 = true)
    (hK : ∀ b' l x12 x13 x14, LBox (n + 6) b' → Gn p (ps.map Prod.fst) (over ps part) s1 s2 day gap ns (ls ++ [l]) → okS x12 = true → okS x13 = true → okS x14 = true → D0.nx (eZ b' zs p .fz ps part s1 s2 day .ow ns (some (.ow, .list ((ls ++ [l]).map Lv.d))) (some (.fz, .int gap)) (some (.fz, .int ls.length)) x12 x13 x14 x15 x16 x17 x18)) :
    b__law_row_right_1 D0 (eZ b zs p k3 ps part s1 s2 day .ow ns (some (.ow, .list (ls.map Lv.d))) (some (.fz, .int gap)) (some (.fz, .int ls.length)) x12 x13 x14 x15 x16 x17 x18) := by
  have hpl := C.pl
  have hpe := C.len
  have hday := C.day
  have hov : ∀ y ∈ over ps part, y ∈ ps.map Prod.fst := fun y hy => over_sub hy
  have hol := over_len ps part
  have hon : over ps part ≠ [] := by
    obtain ⟨pp, hp, e⟩ := List.mem_map.mp C.part
    rw [← e, over_mem C.root hp]; simp
  have hop : 0 < (over ps part).length := List.length_pos_iff.mpr hon
  obtain ⟨gv, hgv⟩ : ∃ z, p[ls.length]? = some z := ⟨p[ls.length]'(by omega), List.getElem?_eq_getElem _⟩
  obtain ⟨tk, htk⟩ : ∃ z, p[ls.length + 1]? = some z := ⟨p[ls.length + 1]'(by omega), List.getElem?_eq_getElem _⟩
  obtain ⟨num, hnum⟩ : ∃ z, ns[ls.length]? = some z := ⟨ns[ls.length]'(by omega), List.getElem?_eq_getElem _⟩
  have a1 : atI (p.map PyData.str) (ls.length : Int) = some (.str gv) := at_zs hgv
  have a2 : atI (p.map PyData.str) ((ls.length : Int) + 1) = some (.str tk) := at_zs htk
  have a3 : atI (ns.map PyData.int) (ls.length : Int) = some (.int num) := by
    obtain ⟨q1, q2⟩ := List.getElem?_eq_some_iff.mp hnum
    rw [atI_lt (by omega) (by rw [List.length_map]; omega)]
    simp [q2]
  have hgs : gv ∉ [s1, s2] := C.n1 _ (List.mem_of_getElem? hgv)
  have hts : tk ∉ [s1, s2] := C.n1 _ (List.mem_of_getElem? htk)
  have hlets : ∀ w u v m, w ∈ over ps part → letsF [s1, s2] (over ps part) 70 day ⟨num, gv, tk, w, u, v, m⟩ = (decide (u ≤ day) && decide (day ≤ v) && decide (70 ≤ m)) := fun w u v m hw => by
    unfold letsF letsB
    simp only [hgs, hts, hw, not_false_eq_true, decide_true, Bool.true_and]
  have fin : ∀ (b : D) (k13 : Kd) (w : Str) (u v m : Int) (x12 x14 : Slot), (k13 = .ow ∨ k13 = .fz) → LBox (n + 6) b → w ∈ over ps part → (decide (u ≤ day) && decide (day ≤ v) && decide (70 ≤ m)) = decide ((ls.length : Int) ≠ gap) → okS x12 = true → okS x14 = true →
      b__law_row_right_1_3 D0 (eZ b zs p .fz ps part s1 s2 day .ow ns (some (.ow, .list (ls.map Lv.d))) (some (.fz, .int gap)) (some (.fz, .int ls.length)) x12 (some (k13, .list [.str w, .int u, .int v, .int m])) x14 x15 x16 x17 x18) := by
    intro b k13 w u v m x12 x14 hk13 hb hw hd o12 o14
    have gn : Gn p (ps.map Prod.fst) (over ps part) s1 s2 day gap ns (ls ++ [⟨num, gv, tk, w, u, v, m⟩]) := by
      refine ⟨?_, fun k l hk => ?_⟩
      · rw [List.map_append, g.nums, List.length_append, List.length_singleton, List.take_succ, hnum]; rfl
      · rcases app_get hk with ⟨_, h⟩ | ⟨rfl, rfl⟩
        · exact g.at_ k l h
        · refine ⟨hgv, htk, (hlets w u v m hw).trans hd, ?_⟩
          obtain ⟨pp, hp, rfl⟩ := List.mem_map.mp (hov w hw)
          exact (C.pt pp hp).1.tok
    have e1 : ls.map Lv.d ++ [PyData.tuple [.int num, .str gv, .str tk, .str w, .int u, .int v, .int m]] = (ls ++ [(⟨num, gv, tk, w, u, v, m⟩ : Lv)]).map Lv.d := by rw [List.map_append]; rfl
    rcases hk13 with rfl | rfl
    all_goals
      push_cast [b__law_row_right_1_3, eZ, a1, a2, a3, e1]
      first
        | exact ⟨by rw [List.length_map]; omega, hK b _ x12 _ x14 hb gn o12 rfl o14⟩
        | (trace_state; fail)
  rcases hk3 with rfl | rfl
  all_goals
    push_cast [b__law_row_right_1, b__law_row_right_1_0, eZ]
    refine callT_of (law_over_ok C.root (by omega) fun o _ hol2 => ?_)
    match o, hol2 with
    | [o1, o2], _ =>
    push_cast [o12, b__law_row_right_1_1, List.length_map]
    refine callT_of (pick_ok hb (by omega) (by omega) (by omega) fun r1 b1 hb1 r10 r11 _ _ => ?_)
    push_cast
    refine bnd_pickS (zs := over ps part) r10 (by omega) fun w hw _ => ?_
    push_cast
    refine callT_of (pick_ok hb1 (by omega) (by decide) (by decide) fun r2 b2 hb2 r20 r21 _ _ => ?_)
    push_cast
    refine callT_of (pick_ok hb2 (by omega) (by decide) (by decide) fun r3 b3 hb3 r30 r31 _ _ => ?_)
    push_cast [o13, b__law_row_right_1_2]
    split
    · rename_i he
      refine callT_of (pick_ok hb3 (by omega) (by decide) (by decide) fun r4 b4 hb4 r40 r41 _ _ => ?_)
      push_cast [o14]
      refine bnd_pick (fun x => ∃ u v m : Int, x = .list [.str w, .int u, .int v, .int m] ∧ (decide (u ≤ day) && decide (day ≤ v) && decide (70 ≤ m)) = false) r40 (by simpa using r41) (fun x hx => ?_) fun x ⟨u, v, m, e, hf⟩ => ?_
      · simp only [List.mem_cons, List.not_mem_nil, or_false] at hx
        rcases hx with rfl | rfl | rfl
        · exact ⟨_, _, _, rfl, by rw [decide_eq_false (show ¬ day + 1 ≤ day by omega)]; rfl⟩
        · exact ⟨_, _, _, rfl, by rw [decide_eq_false (show ¬ day ≤ day - 1 by omega)]; simp⟩
        · exact ⟨_, _, _, rfl, by rw [decide_eq_false (show ¬ (70 : Int) ≤ 69 by omega)]; simp⟩
      subst e
      push_cast
      refine fin b4 .fz w _ _ _ _ _ (.inr rfl) (hb4.mono (by omega)) hw ?_ rfl rfl
      rw [hf, decide_eq_false (show ¬ (ls.length : Int) ≠ gap from fun h => h he)]
    · rename_i he
      refine fin b3 .ow w _ _ _ _ _ (.inl rfl) (hb3.mono (by omega)) hw ?_ rfl o14
      rw [decide_eq_true (show day - r2 ≤ day by omega), decide_eq_true (show day ≤ day + r3 by omega), decide_eq_true (show (ls.length : Int) ≠ gap from he)]
      rfl
theorem right_6 {D0 : DEnds} {n : Nat} {b : D} {zs p : List Str} {ps : List (Str × Str)} {part s1 s2 q : Str} {day gap : Int} {ns : List Int} {x11 x12 x13 x14 x15 x16 x17 x18 : Slot} (C : Cz zs p ps part s1 s2 q day) (hb : LBox n b) (hn : n ≤ 500000) (hnl : ns.length + 1 = p.length) (hx : ∀ x ∈ ns, 0 ≤ x ∧ x ≤ 1000) (o11 : okS x11 = true) (o12 : okS x12 = true) (o13 : okS x13 = true) (o14 : okS x14 = true)
    (hK : ∀ b' ls x11 x12 x13 x14, LBox (n + 120) b' → Gn p (ps.map Prod.fst) (over ps part) s1 s2 day gap ns ls → ls.length = ns.length → okS x11 = true → okS x12 = true → okS x13 = true → okS x14 = true → D0.nx (eZ b' zs p .fz ps part s1 s2 day .ow ns (some (.ow, .list (ls.map Lv.d))) (some (.fz, .int gap)) x11 x12 x13 x14 x15 x16 x17 x18)) :
    w__law_row_right_6 D0 (eZ b zs p .ow ps part s1 s2 day .ow ns (some (.ow, .list [])) (some (.fz, .int gap)) x11 x12 x13 x14 x15 x16 x17 x18) := by
  have hpe := C.len
  push_cast [w__law_row_right_6, eZ]
  have hN : (p.length : Int) - 1 = (ns.length : Nat) := by omega
  have go : ∀ N : Nat, N = ns.length → forLT (asgn 11) b__law_row_right_1 D0 (rngD 0 N) (eZ b zs p .ow ps part s1 s2 day .ow ns (some (.ow, .list (([] : List Lv).map Lv.d))) (some (.fz, .int gap)) x11 x12 x13 x14 x15 x16 x17 x18) := by
    rintro N rfl
    refine forLT_inv (fun i e => ∃ b' k3 ls x11 x12 x13 x14, e = eZ b' zs p k3 ps part s1 s2 day .ow ns (some (.ow, .list (ls.map Lv.d))) (some (.fz, .int gap)) x11 x12 x13 x14 x15 x16 x17 x18 ∧ LBox (n + 6 * i) b' ∧ (k3 = .ow ∨ k3 = .fz) ∧ (0 < i → k3 = .fz) ∧ Gn p (ps.map Prod.fst) (over ps part) s1 s2 day gap ns ls ∧ ls.length = i ∧ okS x11 = true ∧ okS x12 = true ∧ okS x13 = true ∧ okS x14 = true) ⟨b, .ow, [], x11, x12, x13, x14, rfl, hb, .inl rfl, fun h => absurd h (by omega), ⟨rfl, fun k l h => by simp at h⟩, rfl, o11, o12, o13, o14⟩ (fun i d e K hd hi hk => ?_) (fun e hi => ?_)
    · obtain ⟨b', k3, ls, x11, x12, x13, x14, rfl, hb', hk3, _, g, hll, o11, o12, o13, o14⟩ := hi
      obtain ⟨hi, rfl⟩ := rngD_get hd
      have e0 : (0 : Int) + (i : Int) = ((ls.length : Nat) : Int) := by omega
      rw [e0]
      rcases hk3 with rfl | rfl
      all_goals
        push_cast [eZ, o11]
        exact right_b1 C hb' (by omega) (by first | exact .inl rfl | exact .inr rfl) hnl hx g (by omega) o12 o13 o14 fun b2 l x12 x13 x14 hb2 g2 o12 o13 o14 => hk _ ⟨b2, .fz, ls ++ [l], some (.fz, .int ls.length), x12, x13, x14, rfl, hb2.mono (by omega), .inr rfl, fun _ => rfl, g2, by simp [hll], rfl, o12, o13, o14⟩
    · obtain ⟨b', k3, ls, x11, x12, x13, x14, rfl, hb', hk3, hk4, g, hll, o11, o12, o13, o14⟩ := hi
      have hlen : (rngD 0 ns.length).length = ns.length := by simp [rngD]
      rw [hlen] at hll hb' hk4
      rw [hk4 (by omega)]
      exact hK b' ls x11 x12 x13 x14 (hb'.mono (by omega)) g hll o11 o12 o13 o14
  exact ⟨by omega, go _ (by omega)⟩
abbrev hD4 (hp : List (Str × Str)) (ls : List Lv) : D := .tuple [.tuple (hp.map pD), .tuple [], .tuple (ls.map Lv.d), .tuple []]
theorem ints_lay2 {r : List Int} (h : r.length ≤ 1000) (ht : ∀ y ∈ r, 0 ≤ y ∧ y ≤ 100000) : Lay 11 90000 (.list (r.map .int)) :=
  ((LayAll.alln 1000 (k := 0) (w := 40) (fun d hd => by
    obtain ⟨y, hy, rfl⟩ := List.mem_map.mp hd
    have := ht y hy
    exact Lay.int (i := y) (by omega) (by omega)) (by rw [List.length_map]; exact h)).list).mono (by omega) (by omega)
/-- the leaves in the order of their numbers -/
structure Gz (p : List Str) (pn ov : List Str) (s1 s2 : Str) (day gap : Int) (ns : List Int) (ls us : List Lv) : Prop where
  g : Gn p pn ov s1 s2 day gap ns ls
  len : ls.length = ns.length
  pm : us.Perm ls
  up : us.Pairwise fun a b => a.num < b.num
theorem right_7 {D0 : DEnds} {b : D} {zs p : List Str} {ps : List (Str × Str)} {part s1 s2 q : Str} {day gap : Int} {ns : List Int} {ls : List Lv} {x11 x12 x13 x14 x15 x16 x17 x18 : Slot} (C : Cz zs p ps part s1 s2 q day) (hnl : ns.length + 1 = p.length) (hnd : ns.Nodup) (g : Gn p (ps.map Prod.fst) (over ps part) s1 s2 day gap ns ls) (hll : ls.length = ns.length) (o15 : okS x15 = true)
    (hK : ∀ us hp, Gz p (ps.map Prod.fst) (over ps part) s1 s2 day gap ns ls us → hp.Perm ps → D0.nx (eZ b zs p .fz ps part s1 s2 day .ow ns (some (.ow, .list (ls.map Lv.d))) (some (.fz, .int gap)) x11 x12 x13 x14 (some (.fz, hD4 hp us)) x16 x17 x18)) :
    w__law_row_right_7 D0 (eZ b zs p .fz ps part s1 s2 day .ow ns (some (.ow, .list (ls.map Lv.d))) (some (.fz, .int gap)) x11 x12 x13 x14 x15 x16 x17 x18) := by
  have hpe := C.len
  have hnum : ls.map Lv.num = ns := by rw [g.nums, hll, List.take_length]
  push_cast [w__law_row_right_7, eZ]
  refine gSort_lv (n := 8) (fun l hl => ?_) (by rw [hnum]; exact hnd) fun us hpm hup => ?_
  · obtain ⟨k, hk⟩ := List.getElem?_of_mem hl
    obtain ⟨q1, q2, _, q3⟩ := g.at_ k l hk
    exact ⟨(C.nm _ (List.mem_of_getElem? q1)).tok, (C.nm _ (List.mem_of_getElem? q2)).tok, q3⟩
  have hul : us.length = ls.length := hpm.length_eq
  push_cast
  refine callT_of (house_of_ok C.root (fun p hp => ⟨(C.pt p hp).1.tok, (C.pt p hp).2⟩) (by omega) fun hp o hpm2 _ hol => ?_)
  match o, hol with
  | [o1, o2], _ =>
  push_cast [o15]
  exact hK us hp ⟨g, hll, hpm, hup⟩ hpm2
theorem Gz.chain {zs p : List Str} {ps : List (Str × Str)} {part s1 s2 q : Str} {day gap : Int} {ns : List Int} {ls us : List Lv} (C : Cz zs p ps part s1 s2 q day) (hnl : ns.length + 1 = p.length) (g : Gz p (ps.map Prod.fst) (over ps part) s1 s2 day gap ns ls us) :
    Chain p ls ∧ (∀ l, l ∈ stepsF [s1, s2] (over ps part) 70 day us ↔ ∃ k : Nat, ls[k]? = some l ∧ (k : Int) ≠ gap) ∧ ls.map Lv.num = ns := by
  refine ⟨⟨C.nd, by rw [g.len]; exact hnl, fun k l hk => ⟨(g.g.at_ k l hk).1, (g.g.at_ k l hk).2.1⟩⟩, fun l => ?_, by rw [g.g.nums, g.len, List.take_length]⟩
  rw [steps_iff, g.pm.mem_iff]
  constructor
  · rintro ⟨h1, h2⟩
    obtain ⟨k, hk⟩ := List.getElem?_of_mem h1
    rw [(g.g.at_ k l hk).2.2.1, decide_eq_true_iff] at h2
    exact ⟨k, hk, h2⟩
  · rintro ⟨k, hk, h⟩
    exact ⟨List.mem_of_getElem? hk, by rw [(g.g.at_ k l hk).2.2.1, decide_eq_true_iff]; exact h⟩
theorem right_b2 {D0 : DEnds} {n : Nat} {b : D} {zs p : List Str} {ps hp : List (Str × Str)} {part s1 s2 q : Str} {day gap : Int} {ns : List Int} {ls us : List Lv} {x9 x11 x12 x13 x14 x16 x17 x18 : Slot} (C : Cz zs p ps part s1 s2 q day) (hb : LBox n b) (hn : n ≤ 600000) (hnl : ns.length + 1 = p.length) (hx : ∀ x ∈ ns, 0 ≤ x ∧ x ≤ 1000) (g : Gz p (ps.map Prod.fst) (over ps part) s1 s2 day gap ns ls us) (hpm : hp.Perm ps) (o14 : okS x14 = true) (o17 : okS x17 = true) (o18 : okS x18 = true)
    (hK : ∀ b' x14 x17 x18, LBox (n + 2) b' → okS x14 = true → okS x17 = true → okS x18 = true → D0.nx (eZ b' zs p .fz ps part s1 s2 day .ow ns x9 (some (.fz, .int gap)) x11 x12 x13 x14 (some (.fz, hD4 hp us)) x16 x17 x18)) :
    b__law_row_right_2 D0 (eZ b zs p .fz ps part s1 s2 day .ow ns x9 (some (.fz, .int gap)) x11 x12 x13 x14 (some (.fz, hD4 hp us)) x16 x17 x18) := by
  have hpl := C.pl
  have hpe := C.len
  obtain ⟨hch, hst, hnum⟩ := g.chain C hnl
  have hul : us.length = ls.length := g.pm.length_eq
  have hll := g.len
  have tl : ∀ l ∈ us, TOk 8 l.taker := fun l hl => by
    obtain ⟨k, hk⟩ := List.getElem?_of_mem (g.pm.mem_iff.mp hl)
    exact (C.nm _ (List.mem_of_getElem? (g.g.at_ k l hk).2.1)).tok
  have ln : Lay 11 90000 .none := Lay.none.mono (by omega) (by omega)
  push_cast [b__law_row_right_2, b__law_row_right_2_0, eZ]
  refine callT_of (pick_ok hb (by omega) (by omega) (by omega) fun a b1 hb1 a0 a1 _ _ => ?_)
  push_cast
  refine callT_of (pick_ok hb1 (by omega) (by omega) (by omega) fun c b2 hb2 c0 c1 _ _ => ?_)
  obtain ⟨a, rfl⟩ : ∃ k : Nat, a = k := ⟨a.toNat, by omega⟩
  obtain ⟨c, rfl⟩ : ∃ k : Nat, c = k := ⟨c.toNat, by omega⟩
  obtain ⟨za, hza⟩ : ∃ z, p[a]? = some z := ⟨p[a]'(by omega), List.getElem?_eq_getElem _⟩
  obtain ⟨zc, hzc⟩ : ∃ z, p[c]? = some z := ⟨p[c]'(by omega), List.getElem?_eq_getElem _⟩
  have ea : atI (p.map PyData.str) (a : Int) = some (.str za) := at_zs hza
  have ec : atI (p.map PyData.str) (c : Int) = some (.str zc) := at_zs hzc
  have tza := (C.nm _ (List.mem_of_getElem? hza)).tok
  have hzas : za ∉ [s1, s2] := C.n1 _ (List.mem_of_getElem? hza)
  have fin : ∀ (due : Option (List Int)), (a ≤ c ∧ (∀ k : Nat, a ≤ k → k < c → (k : Int) ≠ gap) → due = some ((ns.drop a).take (c - a))) → (¬ (a ≤ c ∧ ∀ k : Nat, a ≤ k → k < c → (k : Int) ≠ gap) → due = none) → ∀ x17, x17 = (match due with | none => some (Kd.fz, PyData.none) | some r => some (.ow, .list (r.map .int))) →
      b__law_row_right_2_2 D0 (eZ b2 zs p .fz ps part s1 s2 day .ow ns x9 (some (.fz, .int gap)) x11 x12 x13 (some (.fz, .int a)) (some (.fz, hD4 hp us)) x16 x17 (some (.fz, .int c))) := by
    intro due hd1 hd2 x17 hx17
    subst hx17
    have main : ∀ n, (turns (stepsF [s1, s2] (over ps part) 70 day us) n ⟨[(za, [])], [za]⟩).wait = [] → rowAt (turns (stepsF [s1, s2] (over ps part) 70 day us) n ⟨[(za, [])], [za]⟩).found zc = due := fun n hw => by
      obtain ⟨m1, m2⟩ := chain_row hch hst (steps_up g.up) hza hzc hw
      rw [hnum] at m1
      by_cases h : a ≤ c ∧ ∀ k : Nat, a ≤ k → k < c → (k : Int) ≠ gap
      · rw [m1 h, hd1 h]
      · rw [m2 h, hd2 h]
    have hdl : ∀ r, due = some r → Lay 11 90000 (.list (r.map .int)) := fun r hr => by
      by_cases h : a ≤ c ∧ ∀ k : Nat, a ≤ k → k < c → (k : Int) ≠ gap
      · have := hd1 h
        rw [hr] at this
        cases this
        refine ints_lay2 (by rw [List.length_take, List.length_drop]; omega) fun y hy => ?_
        have := hx y (List.mem_of_mem_drop (List.mem_of_mem_take hy))
        omega
      · rw [hd2 h] at hr; cases hr
    cases due with
    | none =>
      push_cast [b__law_row_right_2_2, eZ, ea, ec]
      refine callT_of (row_of_ok (sides := [s1, s2]) C.root hpm (by omega) (by omega) tza tl (fun h => absurd h hzas) fun _ n2 o hw2 _ hol => ?_)
      match o, hol with
      | [p1, p2, p3, p4, p5], _ =>
      rw [main n2 hw2]
      push_cast
      refine same_ok 11 _ _ ln fun o _ _ => ?_
      push_cast
      exact hK _ _ _ _ (hb2.mono (by omega)) rfl rfl rfl
    | some r =>
      have lr := hdl r rfl
      push_cast [b__law_row_right_2_2, eZ, ea, ec]
      refine callT_of (row_of_ok (sides := [s1, s2]) C.root hpm (by omega) (by omega) tza tl (fun h => absurd h hzas) fun _ n2 o hw2 _ hol => ?_)
      match o, hol with
      | [p1, p2, p3, p4, p5], _ =>
      rw [main n2 hw2]
      push_cast
      refine same_ok 11 _ _ lr fun o _ _ => ?_
      push_cast
      exact hK _ _ _ _ (hb2.mono (by omega)) rfl rfl rfl
  have hcut : a ≤ c → PL.cutD (ns.map PyData.int) (some (a : Int)) (some (c : Int)) = ((ns.drop a).take (c - a)).map .int := fun h => by
    have := cutMid (ds := ns.map PyData.int) h (by rw [List.length_map]; omega)
    rw [this, List.map_take, List.map_drop]
  push_cast [o14, o18, b__law_row_right_2_1]
  have some_ : (a ≤ c ∧ ∀ k : Nat, a ≤ k → k < c → (k : Int) ≠ gap) → okS x17 = true ∧ b__law_row_right_2_2 D0 (eZ b2 zs p .fz ps part s1 s2 day .ow ns x9 (some (.fz, .int gap)) x11 x12 x13 (some (.fz, .int a)) (some (.fz, hD4 hp us)) x16 (some (.ow, .list (PL.cutD (ns.map PyData.int) (some (a : Int)) (some (c : Int))))) (some (.fz, .int c))) := fun h => by
    rw [hcut h.1]
    exact ⟨o17, fin _ (fun _ => rfl) (fun h2 => absurd h h2) _ rfl⟩
  have none_ : ¬ (a ≤ c ∧ ∀ k : Nat, a ≤ k → k < c → (k : Int) ≠ gap) → okS x17 = true ∧ b__law_row_right_2_2 D0 (eZ b2 zs p .fz ps part s1 s2 day .ow ns x9 (some (.fz, .int gap)) x11 x12 x13 (some (.fz, .int a)) (some (.fz, hD4 hp us)) x16 (some (.fz, .none)) (some (.fz, .int c))) := fun h => ⟨o17, fin none (fun h2 => absurd h2 h) (fun _ => rfl) _ rfl⟩
  split
  · rename_i h1
    split
    · rename_i h2
      split
      · rename_i h3
        simp only [Bool.not_eq_true', decide_eq_false_iff_not] at h3
        exact some_ ⟨by omega, fun k k1 k2 e => by omega⟩
      · rename_i h3
        simp only [Bool.not_eq_true', decide_eq_false_iff_not] at h3
        exact none_ fun h => h.2 gap.toNat (by omega) (by omega) (by omega)
    · rename_i h2
      exact some_ ⟨by omega, fun k k1 k2 e => by omega⟩
  · rename_i h1
    exact none_ fun h => by omega
theorem way_mem {p : List Str} {ls steps : List Lv} (c : Chain p ls) {ok : Nat → Prop} (hs : ∀ l, l ∈ steps ↔ ∃ k, ls[k]? = some l ∧ ok k) {z y : Str} {r : List Int} (w : Way steps z y r) : (z = y ∧ r = []) ∨ (z ∈ p ∧ y ∈ p) := by
  induction w with
  | nil => exact .inl ⟨rfl, rfl⟩
  | @snoc r l w hm ih =>
    right
    obtain ⟨k, hk, _⟩ := (hs l).mp hm
    obtain ⟨q1, q2⟩ := c.at_ k l hk
    refine ⟨?_, List.mem_of_getElem? q2⟩
    rcases ih with ⟨rfl, _⟩ | ⟨h, _⟩
    · exact List.mem_of_getElem? q1
    · exact h
theorem right_8 {D0 : DEnds} {n : Nat} {b : D} {zs p : List Str} {ps hp : List (Str × Str)} {part s1 s2 q : Str} {day gap : Int} {ns : List Int} {ls us : List Lv} {x9 x11 x12 x13 x14 x16 x17 x18 : Slot} (C : Cz zs p ps part s1 s2 q day) (hb : LBox n b) (hn : n ≤ 500000) (hnl : ns.length + 1 = p.length) (hx : ∀ x ∈ ns, 0 ≤ x ∧ x ≤ 1000) (g : Gz p (ps.map Prod.fst) (over ps part) s1 s2 day gap ns ls us) (hpm : hp.Perm ps) (o14 : okS x14 = true) (o16 : okS x16 = true) (o17 : okS x17 = true) (o18 : okS x18 = true)
    (hK : ∀ b' x14 x16 x17 x18, LBox (n + 24) b' → D0.nx (eZ b' zs p .fz ps part s1 s2 day .ow ns x9 (some (.fz, .int gap)) x11 x12 x13 x14 (some (.fz, hD4 hp us)) x16 x17 x18)) :
    w__law_row_right_8 D0 (eZ b zs p .fz ps part s1 s2 day .ow ns x9 (some (.fz, .int gap)) x11 x12 x13 x14 (some (.fz, hD4 hp us)) x16 x17 x18) := by
  push_cast [w__law_row_right_8, eZ]
  refine forLT_inv (fun i e => ∃ b' x14 x16 x17 x18, e = eZ b' zs p .fz ps part s1 s2 day .ow ns x9 (some (.fz, .int gap)) x11 x12 x13 x14 (some (.fz, hD4 hp us)) x16 x17 x18 ∧ LBox (n + 2 * i) b' ∧ okS x14 = true ∧ okS x16 = true ∧ okS x17 = true ∧ okS x18 = true) ⟨b, x14, x16, x17, x18, rfl, hb, o14, o16, o17, o18⟩ (fun i d e K hd hi hk => ?_) (fun e hi => ?_)
  · obtain ⟨b', x14, x16, x17, x18, rfl, hb', o14, o16, o17, o18⟩ := hi
    obtain ⟨hi, rfl⟩ := rngD_get hd
    push_cast [eZ, o16]
    exact right_b2 C hb' (by omega) hnl hx g hpm o14 o17 o18 fun b2 x14 x17 x18 hb2 o14 o17 o18 => hk _ ⟨b2, x14, _, x17, x18, rfl, hb2.mono (by omega), o14, rfl, o17, o18⟩
  · obtain ⟨b', x14, x16, x17, x18, rfl, hb', o14, o16, o17, o18⟩ := hi
    have hlen : (rngD 0 12).length = 12 := by simp [rngD]
    have hb2 : LBox (n + 2 * 12) b' := by simpa [rngD] using hb'
    exact hK b' x14 x16 x17 x18 (hb2.mono (by omega))
theorem right_9 {b : D} {zs p : List Str} {ps hp : List (Str × Str)} {part s1 s2 q : Str} {day gap : Int} {ns : List Int} {ls us : List Lv} {x9 x11 x12 x13 x14 x16 x17 x18 : Slot} {Q : Res → List D → Prop} (C : Cz zs p ps part s1 s2 q day) (hnl : ns.length + 1 = p.length) (g : Gz p (ps.map Prod.fst) (over ps part) s1 s2 day gap ns ls us) (hpm : hp.Perm ps)
    (hK : ∀ o, Q (.fz (.bool true)) (b :: o)) :
    wSeq w__law_row_right_9 (wSeq w__law_row_right_10 w__law_row_right_11) (endsF [Kd.io] Q) (eZ b zs p .fz ps part s1 s2 day .ow ns x9 (some (.fz, .int gap)) x11 x12 x13 x14 (some (.fz, hD4 hp us)) x16 x17 x18) := by
  have hpl := C.pl
  have hpe := C.len
  obtain ⟨hch, hst, hnum⟩ := g.chain C hnl
  have hul : us.length = ls.length := g.pm.length_eq
  have hll := g.len
  have tl : ∀ l ∈ us, TOk 8 l.taker := fun l hl => by
    obtain ⟨k, hk⟩ := List.getElem?_of_mem (g.pm.mem_iff.mp hl)
    exact (C.nm _ (List.mem_of_getElem? (g.g.at_ k l hk).2.1)).tok
  obtain ⟨z0, hz0⟩ : ∃ z, p[0]? = some z := ⟨p[0]'(by omega), List.getElem?_eq_getElem _⟩
  have hz0p := List.mem_of_getElem? hz0
  have a29 : atI (zs.map PyData.str) 29 = some (.str q) := at_zs C.z29
  have a0 : atI (p.map PyData.str) 0 = some (.str z0) := at_zs hz0
  have tq := C.qn.tok
  have tz0 := (C.nm _ hz0p).tok
  have hup := steps_up (sides := [s1, s2]) (ov := over ps part) (tot := 70) (day := day) g.up
  have m1 : ∀ n, (turns (stepsF [s1, s2] (over ps part) 70 day us) n ⟨[(q, [])], [q]⟩).wait = [] → rowAt (turns (stepsF [s1, s2] (over ps part) 70 day us) n ⟨[(q, [])], [q]⟩).found q = some [] := fun n hw => by
    have h := turns_best hup hw q
    generalize rowAt (turns (stepsF [s1, s2] (over ps part) 70 day us) n ⟨[(q, [])], [q]⟩).found q = ro at h
    cases ro with
    | none => exact absurd .nil (h [])
    | some r =>
      rcases way_mem hch hst h.1.1 with ⟨_, e⟩ | ⟨e, _⟩
      · rw [e]
      · exact absurd e C.n3
  have m2 : ∀ n, (turns (stepsF [s1, s2] (over ps part) 70 day us) n ⟨[(q, [])], [q]⟩).wait = [] → rowAt (turns (stepsF [s1, s2] (over ps part) 70 day us) n ⟨[(q, [])], [q]⟩).found z0 = none := fun n hw => by
    have h := turns_best hup hw z0
    generalize rowAt (turns (stepsF [s1, s2] (over ps part) 70 day us) n ⟨[(q, [])], [q]⟩).found z0 = ro at h
    cases ro with
    | none => rfl
    | some r =>
      rcases way_mem hch hst h.1.1 with ⟨e, _⟩ | ⟨e, _⟩
      · rw [← e] at hz0p; exact absurd hz0p C.n3
      · exact absurd e C.n3
  have m3 : ∀ n, (turns (stepsF [s1, s2] (over ps part) 70 day us) n ⟨[(z0, [])], [z0]⟩).wait = [] → rowAt (turns (stepsF [s1, s2] (over ps part) 70 day us) n ⟨[(z0, [])], [z0]⟩).found q = none := fun n hw => by
    have h := turns_best hup hw q
    generalize rowAt (turns (stepsF [s1, s2] (over ps part) 70 day us) n ⟨[(z0, [])], [z0]⟩).found q = ro at h
    cases ro with
    | none => rfl
    | some r =>
      rcases way_mem hch hst h.1.1 with ⟨e, _⟩ | ⟨_, e⟩
      · rw [e] at hz0p; exact absurd hz0p C.n3
      · exact absurd e C.n3
  have le : Lay 11 90000 (.list []) := (LayAll.nil.list).mono (k := 1) (by omega) (by omega)
  push_cast [w__law_row_right_9, eZ, a29]
  refine callT_of (row_of_ok (sides := [s1, s2]) C.root hpm (by omega) (by omega) tq tl (fun h => absurd h C.n2) fun _ n2 o hw2 _ hol => ?_)
  match o, hol with
  | [p1, p2, p3, p4, p5], _ =>
  rw [m1 n2 hw2]
  push_cast [List.map_nil]
  refine same_ok 11 _ _ le fun o _ _ => ?_
  push_cast [w__law_row_right_10, a29, a0]
  refine callT_of (row_of_ok (sides := [s1, s2]) C.root hpm (by omega) (by omega) tq tl (fun h => absurd h C.n2) fun _ n2 o hw2 _ hol => ?_)
  match o, hol with
  | [p1, p2, p3, p4, p5], _ =>
  rw [m2 n2 hw2]
  push_cast [w__law_row_right_11, a29, a0]
  refine callT_of (row_of_ok (sides := [s1, s2]) C.root hpm (by omega) (by omega) tz0 tl (fun h => absurd h (C.n1 _ hz0p)) fun _ n2 o hw2 _ hol => ?_)
  match o, hol with
  | [p1, p2, p3, p4, p5], _ =>
  rw [m3 n2 hw2]
  push_cast
  exact hK _
theorem right_ok {n : Nat} {b : D} {Q : Res → List D → Prop} (hb : LBox n b) (hn : n ≤ 400000) (hQ : ∀ b' o, LBox (n + 400) b' → Q (.fz (.bool true)) (b' :: o)) : g__law_row_right [b] Q := by
  push_cast [g__law_row_right]
  unfold w__law_row_right
  have h := right_0 (D0 := { endsF [Kd.io] Q with nx := fun e1 => w__law_row_right_6 { endsF [Kd.io] Q with nx := fun e2 => w__law_row_right_7 { endsF [Kd.io] Q with nx := fun e3 => w__law_row_right_8 { endsF [Kd.io] Q with nx := fun e4 => wSeq w__law_row_right_9 (wSeq w__law_row_right_10 w__law_row_right_11) (endsF [Kd.io] Q) e4 } e3 } e2 } e1 }) (x11 := none) (x12 := none) (x13 := none) (x14 := none) (x15 := none) (x16 := none) (x17 := none) (x18 := none) hb (by omega) fun b1 zs p ps part s1 s2 q day ns gap hb1 C hnl hnd hx hg0 => right_6 C hb1 (by omega) hnl hx rfl rfl rfl rfl fun b2 ls x11 x12 x13 x14 hb2 g hll o11 o12 o13 o14 => right_7 C hnl hnd g hll rfl fun us hp gz hpm => right_8 C hb2 (by omega) hnl hx gz hpm o14 rfl rfl rfl fun b3 x14 x16 x17 x18 hb3 => right_9 C hnl gz hpm fun o => hQ b3 o (hb3.mono (by omega))
  simp only [wSeq_eq] at h ⊢
  exact h
theorem law_true (ns : List Int) (Q : Res → List D → Prop) (hn : ns.length ≤ 63) (hQ : ∀ o, Q (.fz (.bool true)) o) : g_law [.list (ns.map .int)] Q := by
  push_cast [g_law, w_law, w_law_0]
  rw [List.length_map]
  generalize hM : (1 + if (ns.length : Int) < 4 then (ns.length : Int) else 4) = M
  have hM2 : 0 ≤ M ∧ M ≤ 10 := by subst hM; split <;> omega
  refine ⟨by omega, ?_⟩
  refine forLT_inv (fun i e => ∃ x1 x2, e = [some (.sc, .list (ns.map .int)), x1, x2] ∧ okS x1 = true ∧ okS x2 = true)
    ⟨_, _, rfl, rfl, rfl⟩ (fun i d e K hd hi hk => ?_) (fun e hi => ?_)
  · obtain ⟨x1, x2, rfl, o1, o2⟩ := hi
    obtain ⟨hi, rfl⟩ := rngD_get hd
    push_cast [o1, b_law_1, b_law_1_0]
    refine callT_of (drawn_ok (by omega) (by omega) fun b o hb _ hol => ?_)
    match o, hol with
    | [p1, p2], _ =>
    obtain ⟨q1, q2, q3, rfl, r1, r2, r3⟩ := hb
    push_cast [o2, b_law_1_1]
    refine callT_of (right_ok (n := 0) ⟨q1, q2, q3, rfl, r1, r2, r3⟩ (by omega) fun b' o hb' _ hol => ?_)
    match o, hol with
    | [], _ =>
    obtain ⟨q1, q2, q3, rfl, r1, r2, r3⟩ := hb'
    push_cast
    refine callT_of (right_ok (n := 0 + 400) ⟨q1, q2, q3, rfl, r1, r2, r3⟩ (by omega) fun b' o hb' _ hol => ?_)
    match o, hol with
    | [], _ =>
    obtain ⟨q1, q2, q3, rfl, r1, r2, r3⟩ := hb'
    push_cast
    exact hk _ ⟨_, _, rfl, rfl, rfl⟩
  · obtain ⟨x1, x2, rfl, _⟩ := hi
    push_cast [w_law_1]
    exact hQ _
end K14
open PySem PySem.W PySem.Calls PyProof.Rows
theorem PySem.Challenge.cw_rankseals_k14_rows_of_many_leaves_holds : PySem.Challenge.rw_rankseals_k14_rows_of_many_leaves.Holds := by
  w_on; o_law
  refine HandSHeadRun.head_any (r := OpenLaw.row PySem.Challenge.rw_rankseals_k14_rows_of_many_leaves) (q := view (OpenLaw.row PySem.Challenge.rw_rankseals_k14_rows_of_many_leaves).prog [19]) (H := K14.hk) (ob := K14.ob) (M := 1600) (loose := ["parts_over", "lets", "steps_on", "rows_from", "row_of", "_law_mix", "_law_drawn_from", "_law_pick", "_law_same", "_law_some_names", "_law_shuffled", "_law_some_parts", "_law_parts_over", "_law_rising", "_law_house_of", "_law_row_right"]) (d := HandSHeadRun.topDef (OpenLaw.row PySem.Challenge.rw_rankseals_k14_rows_of_many_leaves).prog 19) (kwd := []) K14.ob_eq
    (by kernel_rfl) (fun s => by kernel_rfl) K14.run (by kernel_rfl) (by kernel_rfl) (by kernel_rfl) (by rfl) (by first | assumption | decide +kernel) (by decide +kernel) ⟨rfl, rfl, rfl, rfl, rfl, by decide +kernel⟩ ?hw ?hc
  case hw => w_witness2
  case hc =>
    refine PL.law_walk (l := PySem.Challenge.rw_rankseals_k14_rows_of_many_leaves) (n := 63) (lv := 14) (x := (PySem.Str.ofString "_law_script")) (CX := L2.CX0) (g := fun _ => K14.g_law) rfl (by decide) (by kernel_rfl) ⟨rfl, by decide, by decide⟩ ?F (fun K xs Q hn hQ => K14.law_true xs Q hn hQ) (fun _ _ _ _ z => z)
    case F =>
      intro w mg fa h Y G hmg0
      obtain ⟨K, KX, c⟩ := Y
      have hmg : mg ("law" : PySem.Str) = some (.ref fa) := by
        have e : (HandSHeadRun.topDef (OpenLaw.row PySem.Challenge.rw_rankseals_k14_rows_of_many_leaves).prog 19).name = ("law" : PySem.Str) := by kernel_rfl
        rw [← e]
        exact hmg0
      obtain ⟨fd, hb, hF⟩ := K14.facts (P := (PySem.Challenge.rw_rankseals_k14_rows_of_many_leaves).prog) (w := w) KX G hmg c
      exact ⟨K, fd, KX, hb, hF⟩
